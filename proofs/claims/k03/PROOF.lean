import PyProof.Rows.All
import Wide.All
import OpenK.AllK
import Wide.FinOn
import HandS.ForMost
import HandS.Exc
import HandS.ExcInit
import HandS.IsInst
import HandS.MakeKw
import KE.KExcIs
import HandS.MakeKwOnly
import HandS.ExcOwn
import HandS.ExcField
import HandS.ExcValue
import HandS.Walk
import HandS.Head0
import HandS.Head1
import HandS.Head2
import HandS.HeadEnd
import HandS.HeadHook1
import HandS.HeadHook2
import PySem.Challenge.RW_onerun_k03_errors_apart
set_option Elab.async false
set_option linter.all false
set_option maxRecDepth 100000
set_option maxHeartbeats 0
namespace PySem
namespace ExK
open PySem.W PySem.Calls PyProof.Rows PySem.HandSPX
section
variable {M : Model} {A : Around} {E : Value → Shared → Prop} {h : Heap} {g : Array GenState} {d : Drawn} {t : Nat} {os : OsState}
variable {nm q : Str} {C N : Addr} {bs bm bmB : List Value} {hdct : Bool} {sn : List Str} {sub : List Value} {ab : Bool} {col : Option Bool} {dd : Option Addr} {k0 k1 k2 k3 k5 : Option Value} {B newId initId : String}
theorem check_new_kw (F : ExcBaseFacts B newId initId bmB) (hT : ∀ X : String, bm.contains (.type X) = bmB.contains (.type X)) {us : List Value} {kw : List (Str × Value)} {Q : Unit → Shared → Prop}
    (hC : h.get? C = some (excClassObj nm q C N bs bm hdct sn sub ab col dd k0 k1 k2 k3 k5 newId)) (hq : Q () ⟨h, g, d, t, os⟩) : wpAny M A (checkBuiltinCall newId ⟨.ref C :: us, kw⟩) Q E ⟨h, g, d, t, os⟩ := by
  have hc1 : (Value.ref C :: bm).contains (.type B) = true := by rw [List.contains_cons, hT, F.hasB, Bool.or_true]
  have hst := F.noStar
  simp only [checkBuiltinCall, F.newKind, F.newSplit, F.newRow]
  repeat (first | refine wpAny_loadPart_at hC ?_ | (refine wpAny_isSubtype_exc hC ?_; rw [hc1]) | refine wpAny_staticBase_exc hC ?_ | refine wpAny_madeBy_exc hC ?_ | simp only [bne_self_eq_false, Bool.false_eq_true, if_false] | wp_step)
  exact hq
end
section
variable {prog : Program} {w : World} {A : Around} {E : Value → Shared → Prop} {R : Result → Shared → Prop} {h : Heap} {g : Array GenState} {d : Drawn} {t : Nat} {os : OsState}
variable {nm q : Str} {C N : Addr} {bs bm bmB : List Value} {hdct : Bool} {sn : List Str} {sub : List Value} {ab : Bool} {col : Option Bool} {dd : Option Addr} {k0 k1 k2 k3 k5 : Option Value} {B newId initId : String}
theorem new_kw (F : ExcBaseFacts B newId initId bmB) (hT : ∀ X : String, bm.contains (.type X) = bmB.contains (.type X)) {us : List Value} {kw : List (Str × Value)}
    (hC : h.get? C = some (excClassObj nm q C N bs bm hdct sn sub ab col dd k0 k1 k2 k3 k5 newId))
    (hq : R (.ok (.ret (.ref (h.objs.size + 1)))) ⟨(h.push { cls := .type "tuple", data := .seq us.toArray }).push
      { cls := .ref C, data := .fields #[.ref h.objs.size, .none, .none, .none, .bool false, .none] }, g, d, t, os⟩) (hus : us.length ≤ sizeLine) :
    codeAny (model prog w) A (.builtin newId ⟨.ref C :: us, kw⟩) R ⟨h, g, d, t, os⟩ := by
  have hen := F.ends
  have c1 : (Value.ref C :: bm).contains (.type B) = true := by rw [List.contains_cons, hT, F.hasB, Bool.or_true]
  have c2 : (Value.ref C :: bm).contains (.type "AttributeError") = false := by rw [List.contains_cons, hT, F.noAttr]; rfl
  have c3 : (Value.ref C :: bm).contains (.type "NameError") = false := by rw [List.contains_cons, hT, F.noName]; rfl
  refine codeAny_builtinAt F.entry ?_
  unfold Builtin.«BaseException.__new__»
  refine wpAt_bind ?_
  show wpAt _ _ _ (stack >>= _) _ _ _
  refine wpAt_bind (wpAt_stack fun p below => wpAt_of_wpAny ?_)
  wp_walk
  refine wpAt_of_wpAny ?_
  rw [F.owner]
  repeat (first | with_reducible refine wpAny_madeHere_exc F.canon hC ?_ | with_reducible refine wpAny_loadPart_at hC ?_ | (with_reducible refine wpAny_isSubtype_exc hC ?_; first | rw [c1] | rw [c2] | rw [c3]) | wp_step)
  show R _ _
  rw [Heap.size_push]
  exact hq
theorem type_call_kw (F : ExcBaseFacts B newId initId bmB) (hT : ∀ X : String, bm.contains (.type X) = bmB.contains (.type X)) {us : List Value} {kw : List (Str × Value)} {fI : Addr} {Q : Fin → Shared → Prop}
    (hC : h.get? C = some (excClassObj nm q C N bs bm hdct sn sub ab col dd k0 k1 k2 k3 k5 newId))
    (hi : W.Looks (model prog w) h (typeLookup (.ref C) "__init__") (some (.ref fI))) (hb : ∀ self, W.Looks (model prog w) h (bindSpecial (.ref fI) self) (.ref fI, [self])) (hus : us.length ≤ sizeLine)
    (hq : codeAny (model prog w) A (.call (.ref fI) ⟨.ref (h.objs.size + 1) :: us, kw⟩)
      (fun r s' => match r with | .ok (.ret v) => v = .none ∧ Q (.done (.ret (.ref (h.objs.size + 1)))) s' | .ok _ => False | .error e => E e s')
      ⟨(h.push (W.kdv_tup us)).push (excO C h.objs.size), g, d, t, os⟩) :
    wpAny (model prog w) A (Builtin.«type.__call__» ⟨.ref C :: us, kw⟩) Q E ⟨h, g, d, t, os⟩ := by
  repeat (first | with_reducible refine wpAny_loadPart_at hC ?_ | with_reducible refine wpAny_madeBy_exc hC ?_ | wp_step)

  refine codeAny_call_builtin_code (Code.quiet_builtin _ F.quiet) (check_new_kw F hT hC ?_)
  refine new_kw F hT hC ?_ hus
  show wpAny _ _ _ _ _ _
  have kk : ∀ b o, h.get? b = some o → ((h.push (W.kdv_tup us)).push (excO C h.objs.size)).get? b = some o := fun b o e => Heap.get?_push_of_some _ (Heap.get?_push_of_some _ e)
  have hC1 := kk _ _ hC
  have hgt : ((h.push (W.kdv_tup us)).push (excO C h.objs.size)).get? (h.objs.size + 1) = some (excO C h.objs.size) := by heap_get
  have hcc : (Value.ref C :: bm).contains (.ref C) = true := by simp
  have i1 := hi.keeps kk
  have b1 := (hb (.ref (h.objs.size + 1))).keeps kk
  unfold isInstance
  repeat (first | with_reducible refine wpAny_loadPart_at hgt ?_ | (with_reducible refine wpAny_isSubtype_exc hC1 ?_; rw [hcc]) | wp_step)
  show wpAny _ _ (typeLookup (.ref C) _) _ _ _
  refine i1.at ?_
  refine wpAny_holding (wpAny_bind (b1.at ?_))
  refine wpAny_bind (wpAny_call (codeAny_mono hq fun r s' z => ?_))
  rcases r with e | (v | _ | _ | _) <;> first | exact z | exact z.elim | skip
  obtain ⟨rfl, z⟩ := z
  first
    | exact wpAny_pure (wpAny_pure z)
    | (wp_walk; exact z)
theorem call_kw (F : ExcBaseFacts B newId initId bmB) (hT : ∀ X : String, bm.contains (.type X) = bmB.contains (.type X)) {us : List Value} {kw : List (Str × Value)} {fI : Addr}
    (hC : h.get? C = some (excClassObj nm q C N bs bm hdct sn sub ab col dd k0 k1 k2 k3 k5 newId))
    (hi : W.Looks (model prog w) h (typeLookup (.ref C) "__init__") (some (.ref fI))) (hb : ∀ self, W.Looks (model prog w) h (bindSpecial (.ref fI) self) (.ref fI, [self])) (hus : us.length ≤ sizeLine)
    (hq : codeAny (model prog w) (A.under (.builtin "type.__call__" ⟨.ref C :: us, kw⟩)) (.call (.ref fI) ⟨.ref (h.objs.size + 1) :: us, kw⟩) (W.InitBack (h.objs.size + 1) R)
      ⟨(h.push (W.kdv_tup us)).push (excO C h.objs.size), g, d, t, os⟩) :
    codeAny (model prog w) A (.call (.ref C) ⟨us, kw⟩) R ⟨h, g, d, t, os⟩ := by
  have f1 := tc_lookup
  have f2 := tc_bind (.ref C)
  have hTy : (⟨h, g, d, t, os⟩ : Shared).TypeIs (.ref C) "type" := ⟨_, hC, rfl⟩
  refine codeAny_of_tree ?_
  show wpAny _ _ (callAny (.ref C) _) _ _ _
  repeat (any_goals (first | assumption | with_reducible refine wpAny_loadPart_at hC ?_ | wp_step))
  refine ⟨rfl, ?_⟩
  refine codeAny_call_builtin_at (Code.quiet_builtin _ (by decide +kernel)) entry_typeCall ?_

  refine (wpAny_check_type_call_sub hC (type_call_kw F hT hC hi hb hus ?_))
  refine codeAny_mono hq fun r s' z => ?_
  rcases r with e | (v | _ | _ | _) <;> exact z
end
end ExK
end PySem

namespace L2
open PySem PySem.Spec PyProof.Rows
/-- C(e, .., k = v, ..), an exception's class with its own __init__: the exception as a value -/
def tExV (C : Addr) (n m : Nat) (sp : Sp) (gV : List V → List V → List V) (t tk : TA) : TE := fun σ H Q => t σ H fun vs H1 => tk σ H1 fun zs H2 => vs.length = n ∧ n ≤ 1000 ∧ zs.length = m ∧
  ∀ a, H2 a = none → sp (gV (.ref a :: vs) zs) (upd H2 a (exo a C none)) (fun v H3 => v = .non ∧ Q (.ref a) H3) (fun _ _ _ => False)
section
variable {X : Cx} {CX : CXT} {k n : Nat} {fI C : Addr} {fd : FuncData} {ps ks : List Str} {sp : Sp} {x : Str} {p pos : Pos} {e : Expr} {es : List Expr} {kws : List Keyword} {t tk : TA} {g : List Value → List Value → List Value} {gV : List V → List V → List V}
theorem run_exV {pins : List (Addr × Obj)} {σ : St} {H : Hp} {s : Shared} {Q : VK} {us ws : List Value} {vs zs : List V} (T : OexC X.K C) (iC : PySem.W.findIn X.K (.ref C) "__init__" = some (some (.ref fI)))
    (tI : PySem.W.typeIn X.K (.ref fI) = some (.type "function")) (F1 : FnOk X.prog X.w X.K X.mg X.base CX k fI fd ps sp) (hr : Room (k + 1) X.A) (hb : KBn X.K fd ps (n + 1) ks g gV) (hx : Passes CX X (fun _ _ _ => False))
    (I : Inv X pins σ H s) (r : Vals vs us) (rz : Vals zs ws) (l1 : vs.length = n) (hz : n ≤ 1000) (l2 : zs.length = ks.length)
    (h : ∀ a, H a = none → sp (gV (.ref a :: vs) zs) (upd H a (exo a C none)) (fun v H2 => v = .non ∧ Q (.ref a) H2) (fun _ _ _ => False)) :
    wpAny (model X.prog X.w) X.A (call (.ref C) us (ks.zip ws)) (EP X pins σ Q) X.xe s := by
  obtain ⟨nm, q, N, bs, bm, sn, sub, ab, col, dd, k0, k1, k2, k3, k5, hC, hbm⟩ := T.cls
  obtain ⟨hp, gs, dr, tk, os⟩ := s
  have hsz : hp.objs.size ≤ hp.objs.size + 1 := Nat.le_succ _
  have hn : H (hp.objs.size + 1) = none := I.hok.fresh hsz
  have hq := h (hp.objs.size + 1) hn
  have kk : ∀ b o, hp.get? b = some o → ((hp.push (PySem.W.kdv_tup us)).push (PySem.HandSPX.excO C hp.objs.size)).get? b = some o := fun b o e => Heap.get?_push_of_some _ (Heap.get?_push_of_some _ e)
  have hgt : ((hp.push (PySem.W.kdv_tup us)).push (PySem.HandSPX.excO C hp.objs.size)).get? (hp.objs.size + 1) = some (PySem.HandSPX.excO C hp.objs.size) := by heap_get
  have I2 : Inv X pins σ (upd H (hp.objs.size + 1) (exo (hp.objs.size + 1) C none)) ⟨(hp.push (PySem.W.kdv_tup us)).push (PySem.HandSPX.excO C hp.objs.size), gs, dr, tk, os⟩ :=
    I.laid (t' := tk) (a := hp.objs.size + 1) (o := exo (hp.objs.size + 1) C none) (h' := (hp.push (PySem.W.kdv_tup us)).push (PySem.HandSPX.excO C hp.objs.size)) kk hsz (exo_ok hgt)
  have r1 : Vals (V.ref (hp.objs.size + 1) :: vs) (Value.ref (hp.objs.size + 1) :: us) := .cons rfl r
  have r2 := hb.rel r1 rz
  have e1 : (Value.ref (hp.objs.size + 1) :: us).length = n + 1 := r1.length.symm.trans (congrArg Nat.succ l1)
  have e2 : ws.length = ks.length := rz.length.symm.trans l2
  have hus : us.length ≤ sizeLine := by
    rw [← Paired.length r, l1, sizeLine_eq]
    omega
  refine wpAny_call (PySem.ExK.call_kw F.excBase_ValueError (fun Y => PySem.HandSPX.refsVE_contains Y bm hbm) (I.kIn _ _ hC) (PySem.W.looks_findIn I.kIn iC) (fun self => PySem.W.bind_fn I.kIn self tI) hus
    (codeAny_mono (F1.run _ X.stack _ _ ⟨Value.ref (hp.objs.size + 1) :: us, ks.zip ws⟩ (g (Value.ref (hp.objs.size + 1) :: us) ws) _ _ (fun _ _ _ => False) (hr.make C us (ks.zip ws)) (I2.env0.make C us (ks.zip ws)) (hb.to _ (Value.ref (hp.objs.size + 1) :: us) ws I2.kIn e1 e2) r2 hq) fun rr s' hq' => ?_))
  cases rr with
  | error er => exact hx pins σ _ _ er s' I2 hq'
  | ok fl =>
    cases fl with
    | ret u =>
      obtain ⟨v, H', I3, rv, ev, q3⟩ := I2.after hq'
      subst ev
      exact ⟨rv, ⟨V.ref (hp.objs.size + 1), H', I3, rfl, q3⟩⟩
    | next => exact False.elim hq'
    | brk => exact False.elim hq'
    | cont => exact False.elim hq'
theorem pe_exV (T : OexC X.K C) (iC : PySem.W.findIn X.K (.ref C) "__init__" = some (some (.ref fI)))
    (tI : PySem.W.typeIn X.K (.ref fI) = some (.type "function")) (F1 : FnOk X.prog X.w X.K X.mg X.base CX k fI fd ps sp) (hr : Room (k + 1) X.A) (hb : KBn X.K fd ps (n + 1) [] g gV) (hx : Passes CX X (fun _ _ _ => False))
    (hg : Gl X x) (hm : X.mg x = some (.ref C)) (ha : PA X (e :: es) t)
    (hdb : (x == ("__debug__" : Str)) = false := by decide) (he : starEach (e :: es) X.env = (false, eval e X.env) :: starEach es X.env := by rfl) (hpl : (backTo pos (starEach es X.env)).any (·.1) = false := by rfl) :
    PE X (.Call (.Name x p) (e :: es) [] pos) (tExV C n 0 sp gV t tNil) := by
  refine ⟨fun pins s σ H Q I h => ?_⟩
  refine wpAny_Call_Name_kw (ld_glob I hg hm ?_ hdb)
  refine PySem.W.callWith_K (h₀ := X.base) I.ok.mod.kin T.kC (thn (ha.run pos pins s σ H _ I h) fun us s1 ⟨vs, H1, I1, r1, l1, hz, l2, q1⟩ => ⟨I1.kIn, ?_⟩) he hpl
  exact run_exV (ws := []) T iC tI F1 hr hb hx I1 r1 .nil l1 hz l2 q1
theorem pe_exK (T : OexC X.K C) (iC : PySem.W.findIn X.K (.ref C) "__init__" = some (some (.ref fI)))
    (tI : PySem.W.typeIn X.K (.ref fI) = some (.type "function")) (F1 : FnOk X.prog X.w X.K X.mg X.base CX k fI fd ps sp) (hr : Room (k + 1) X.A) (hb : KBn X.K fd ps (0 + 1) ks g gV) (hx : Passes CX X (fun _ _ _ => False))
    (hg : Gl X x) (hm : X.mg x = some (.ref C)) (hkw : PK X kws tk) (hall : (backToKw pos (keywordEach kws X.env)).all (·.1.isSome) = true := by rfl) (hks : (backToKw pos (keywordEach kws X.env)).filterMap (·.1) = ks := by rfl)
    (hdb : (x == ("__debug__" : Str)) = false := by decide) (hpl : ((backTo pos (starEach [] X.env)).any (·.1) || (backToKw pos (keywordEach kws X.env)).any (·.1.isNone)) = false := by rfl) :
    PE X (.Call (.Name x p) [] kws pos) (tExV C 0 ks.length sp gV tNil tk) := by
  refine ⟨fun pins s σ H Q I h => ?_⟩
  refine wpAny_Call_Name_kw (ld_glob I hg hm ?_ hdb)
  refine PySem.W.callWith_KW0 (h₀ := X.base) I.ok.mod.kin T.kC hall ?_ hpl
  refine thn (hkw.run pos pins s σ H _ I h) fun ws s2 ⟨zs, H2, I2, rz, l1, hz, l2, q2⟩ => ⟨I2.kIn, ?_⟩
  rw [hks]
  exact run_exV (us := []) (vs := []) T iC tI F1 hr hb hx I2 .nil rz rfl hz l2 q2
/-- C(), an exception's class without an own __init__ -/
theorem pe_ex0 {bmB : List Value} {B newId initId : String} (F : ExcBaseFacts B newId initId bmB) (q : PySem.W.excIn X.K C bmB newId = true) (gC : X.mg x = some (.ref C)) (kC : PySem.W.keepIn X.K (.ref C) = true) (hg : Gl X x)
    (hdb : (x == ("__debug__" : Str)) = false := by decide) :
    PE X (.Call (.Name x p) [] [] pos) (fun σ H Q => ∀ a, H a = none → Q (.ref a) (upd H a (exo a C none))) := by
  refine ⟨fun pins s σ H Q I h => ?_⟩
  refine wpAny_Call_Name_kw (ld_glob I hg gC ?_ hdb)
  refine PySem.W.callWith_K0 I.kIn kC ?_
  show wpAny _ _ (call (.ref C) []) _ _ _
  obtain ⟨bm, N, nm, qn, bs, hdct, sn, sub, ab, col, dd, k0, k1, k2, k3, k5, mN, hC, hN, hni, T⟩ := exc_obj I.kIn q
  refine wpAny_call_exc_subT F T hC hN hni (fun h' a hm => ?_) (by show 0 ≤ sizeLine; omega)
  have hn : H a = none := I.hok.gone hm.new
  obtain ⟨t, ht, _, _⟩ := hm.there
  exact ⟨.ref a, upd H a (exo a C none), I.laidN hm.keeps hm.new hn (exo_ok ht), rfl, h a hn⟩
/-- isinstance(x, c) of such an exception -/
structure ExIs (K : PySem.W.Frag) (C : Addr) : Prop where
  ga : PySem.W.findIn K (.ref C) "__getattribute__" = some (some (.builtin "BaseException.__getattribute__"))
  gg : PySem.W.findIn K (.ref C) "__getattr__" = some none
  exC : PySem.W.subIn K (.ref C) (.type "BaseException") = some true
  hdC : PySem.W.hasDictIn K C = true
  ca : PySem.W.findIn K (.ref C) "__class__" = some (some (.builtin "object.__class__"))
  cg : PySem.W.specialIn K (.builtin "object.__class__") "__get__" = some (some (.builtin "getset_descriptor.__get__"))
  ct : PySem.W.takesIn K (.builtin "object.__class__") = some true
  mo : PySem.W.mroIn K C (.type "object") = some true
theorem exo_inst {pins : List (Addr × Obj)} {σ : St} {H : Hp} {s : Shared} {a : Addr} {d : Option Addr} (I : Inv X pins σ H s) (ha : H a = some (exo a C d)) (hd : ∀ b, d = some b → ∃ fs, H b = some (exd b fs)) :
    ∃ ox od, PySem.W.InstAt s.heap a ox C od := by
  obtain ⟨t1, ho⟩ := exo_at I.hok ha
  cases d with
  | none => exact ⟨_, none, ho, rfl, rfl, trivial⟩
  | some b =>
    obtain ⟨fs, hb⟩ := hd b rfl
    obtain ⟨mA, hns, rel⟩ := exd_at I.hok hb
    obtain ⟨od, ho2, hl⟩ := lookIn_ns hns
    exact ⟨_, some od, ho, rfl, rfl, ho2⟩
theorem call_isiE : CallR X (.builtin "isinstance") (fun xs H Q => ∃ (a C : Addr) (d : Option Addr) (c : V) (u : Value) (b : Bool), xs = [.ref a, c] ∧ ClsV c u ∧ H a = some (exo a C d) ∧ (∀ b, d = some b → ∃ fs, H b = some (exd b fs)) ∧
    ExIs X.K C ∧ PySem.W.kitOne X.K (.ref C) u = some b ∧ Q (.bl b) H) := by
  intro pins s σ H xs us Q I r ⟨a, C, d, c, u, b, hxs, k, ha, hd, T, e, q⟩
  subst hxs
  obtain ⟨u1, u2, rfl, r1, r2⟩ := vals2 r
  have e2 := k.eq r2
  subst e2
  cases (show u1 = Value.ref a from r1)
  obtain ⟨ox, od, J⟩ := exo_inst I ha hd
  have hcl : (PySem.W.clsIn X.K C).isSome = true := by
    obtain ⟨cd, hc, _⟩ := PySem.W.any_some T.hdC
    rw [hc]
    rfl
  exact PySem.W.kia_one (PySem.W.kitx_exc (ox := ox) (od := od) hcl T.ga T.gg T.exC T.ca T.cg T.ct T.mo) I.kIn J e (fun z => nomatch z) fun tk => ⟨.bl b, H, I.tok tk, rfl, q⟩
/-- e.f of such an exception -/
def tExF (K : PySem.W.Frag) (f : Str) (te : TE) : TE := fun σ H Q => te σ H fun x H1 => ∃ (a C d : Addr) (fs : List (Str × V)) (v : V), x = .ref a ∧ H1 a = some (exo a C (some d)) ∧ H1 d = some (exd d fs) ∧ ExIs K C ∧ PySem.W.findIn K (.ref C) f = some none ∧ fs.lookup f = some v ∧ Q v H1
theorem pe_exF {f : Str} {te : TE} (he : PE X e te) (hb : attributeBase e f X.env (eval e X.env) = eval e X.env := by rfl) :
    PE X (.Attribute e f pos) (tExF X.K f te) := by
  refine ⟨fun pins s σ H Q I h => ?_⟩
  refine attr_of hb (thn (he.run pins s σ H _ I h) fun u s1 ⟨x, H1, I1, rx, a, C, d, fs, v, ex, ha, hd, T, hno, l, q⟩ => ?_)
  subst ex
  obtain rfl : u = Value.ref a := rx
  obtain ⟨t1, ho⟩ := exo_at I1.hok ha
  obtain ⟨mA, hns, hr⟩ := exd_at I1.hok hd
  obtain ⟨od, ho2, hl⟩ := lookIn_ns hns
  obtain ⟨u, hu, ru⟩ := RelO.some_of (v := v) (o := mA f) (by rw [← l]; exact hr f)
  have J : PySem.W.InstAt s1.heap a _ C (some od) := ⟨ho, rfl, rfl, ho2⟩
  exact HandSPX.exc_get I1.kIn J T.ga T.gg T.exC (PySem.W.findObj_own T.hdC hno rfl (by rw [hl, hu])) (handed_of ru) ⟨v, H1, I1.tok _, ru, q⟩
end
end L2

namespace K3
open PySem L2
theorem same_new {H : Hp} {p : Addr} {o : HO} (h : H p = none) : Same H (upd H p o) := fun b u e => by
  rw [upd_ne (ne_of_none e h)]
  exact e
/-! deep data stands while the heap grows -/
theorem sqt_same {K : PySem.W.Frag} {H H' : Hp} {a : Addr} {xs : List V} (e : Same H H') (h : SqT K H a xs) : SqT K H' a xs := by
  rcases h with h | h
  · rcases h with h | ⟨o, h⟩
    · exact Or.inl (Or.inl (e a _ h))
    · exact Or.inl (Or.inr ⟨o, e a _ h⟩)
  · exact Or.inr h
mutual
theorem dp_same {K : PySem.W.Frag} {H H' : Hp} (e : Same H H') : ∀ {v : V} {d : PyData}, Dp K H v d → Dp K H' v d
  | _, _, .non => .non
  | _, _, .bl b => .bl b
  | _, _, .int i => .int i
  | _, _, .str x => .str x
  | _, _, .lst h ds => .lst (e.seq h) (dps_same e ds)
  | _, _, .tup h ds => .tup (sqt_same e h) (dps_same e ds)
theorem dps_same {K : PySem.W.Frag} {H H' : Hp} (e : Same H H') : ∀ {vs : List V} {ds : List PyData}, DpAll K H vs ds → DpAll K H' vs ds
  | _, _, .nil => .nil
  | _, _, .cons h hs => .cons (dp_same e h) (dps_same e hs)
end
/-! ### an error that stands at a: its class at C, its fields (if its class has an own __init__) -/
abbrev Fo := Option (List (Str × V))
def ErAt (H : Hp) (a C : Addr) : Fo → Prop
  | none => H a = some (exo a C none)
  | some fs => ∃ d, H a = some (exo a C (some d)) ∧ H d = some (exd d fs)
theorem ErAt.same {H H' : Hp} {a C : Addr} {fo : Fo} (s : Same H H') (h : ErAt H a C fo) : ErAt H' a C fo := by
  cases fo with
  | none => exact s a _ h
  | some fs =>
    obtain ⟨d, h1, h2⟩ := h
    exact ⟨d, s a _ h1, s d _ h2⟩
theorem ErAt.ex {H : Hp} {a C : Addr} {fo : Fo} (h : ErAt H a C fo) : ∃ d : Option Addr, H a = some (exo a C d) ∧ ∀ b, d = some b → ∃ fs, H b = some (exd b fs) := by
  cases fo with
  | none => exact ⟨none, h, fun b z => nomatch z⟩
  | some fs =>
    obtain ⟨d, h1, h2⟩ := h
    exact ⟨some d, h1, fun b z => by cases z; exact ⟨fs, h2⟩⟩
abbrev Spec := Addr × Fo
abbrev ErR (H : Hp) (a : Addr) (p : Spec) : Prop := ErAt H a p.1 p.2
theorem pr_same {H H' : Hp} (s : Same H H') : ∀ {as : List Addr} {P : List Spec}, Paired (ErR H) as P → Paired (ErR H') as P
  | _, _, .nil => .nil
  | _, _, .cons h hs => .cons (h.same s) (pr_same s hs)
theorem pr_app {H : Hp} : ∀ {as bs : List Addr} {P Q : List Spec}, Paired (ErR H) as P → Paired (ErR H) bs Q → Paired (ErR H) (as ++ bs) (P ++ Q)
  | _, _, _, _, .nil, k => k
  | _, _, _, _, .cons h hs, k => .cons h (pr_app hs k)
theorem pr_drop {H : Hp} : ∀ (n : Nat) {as : List Addr} {P : List Spec}, Paired (ErR H) as P → Paired (ErR H) (as.drop n) (P.drop n)
  | 0, _, _, h => h
  | _ + 1, _, _, .nil => .nil
  | n + 1, _, _, .cons _ hs => pr_drop n hs
theorem pr_get {H : Hp} : ∀ {as : List Addr} {P : List Spec} {i : Nat} {p : Spec}, Paired (ErR H) as P → P[i]? = some p → ∃ a, as[i]? = some a ∧ ErAt H a p.1 p.2
  | _, _, _, _, .nil, e => by simp at e
  | _, _, 0, _, .cons h _, e => by
    simp at e
    subst e
    exact ⟨_, rfl, h⟩
  | _, _, i + 1, p, .cons _ hs, e => by
    obtain ⟨a, h1, h2⟩ := pr_get (i := i) (p := p) hs (by simpa using e)
    exact ⟨a, by simpa using h1, h2⟩
/-- a list of errors -/
def RowAt (H : Hp) (p : Addr) (P : List Spec) : Prop := ∃ as : List Addr, H p = some (.lst (as.map V.ref)) ∧ Paired (ErR H) as P
theorem RowAt.same {H H' : Hp} {p : Addr} {P : List Spec} (s : Same H H') (h : RowAt H p P) : RowAt H' p P := by
  obtain ⟨as, h1, h2⟩ := h
  exact ⟨as, s p _ h1, pr_same s h2⟩
/-! ### the promise of an own __init__ that stores its arguments -/
def spE (C : Addr) (fl : List Str) : Sp := fun vs H Q _ => ∃ (a : Addr) (ws : List V), vs = .ref a :: ws ∧ ws.length = fl.length ∧ H a = some (exo a C none) ∧
  ∀ (d : Addr) (H' : Hp), H d = none → d ≠ a → H' a = some (exo a C (some d)) → H' d = some (exd d (fl.zip ws).reverse) → (∀ b, b ≠ a → b ≠ d → H' b = H b) → Q .non H'
def gR {α : Type} (us zs : List α) : List α := us ++ zs.reverse
/-- what makes one error | a list of them -/
def Mk1 (σ : St) (p : Spec) (te : TE) : Prop := ∀ (H : Hp) (Q : VK), (∀ a H', Same H H' → ErAt H' a p.1 p.2 → Q (.ref a) H') → te σ H Q
def Mks (σ : St) (P : List Spec) (ta : TA) : Prop := ∀ (H : Hp) (Q : List V → Hp → Prop), (∀ as H', Same H H' → Paired (ErR H') as P → Q (as.map V.ref) H') → ta σ H Q
theorem mks_nil {σ : St} : Mks σ [] tNil := fun H Q k => k [] H (Same.refl H) .nil
theorem mks_cons {σ : St} {p : Spec} {P : List Spec} {te : TE} {ta : TA} (h1 : Mk1 σ p te) (h2 : Mks σ P ta) : Mks σ (p :: P) (tCons te ta) := fun H Q k =>
  h1 H _ fun a H1 s1 e1 => h2 H1 _ fun as H2 s2 e2 => k (a :: as) H2 (s1.trans s2) (.cons (e1.same s2) e2)
theorem made_same {H H' : Hp} {a d : Addr} {o : HO} (ha : H a = none) (hd : (upd H a o) d = none) (hne : d ≠ a) (h3 : ∀ b, b ≠ a → b ≠ d → H' b = (upd H a o) b) : Same H H' := fun b u e => by
  have hba : b ≠ a := ne_of_none e ha
  have hbd : b ≠ d := fun z => by
    rw [upd_ne hne, ← z, e] at hd
    cases hd
  rw [h3 b hba hbd, upd_ne hba]
  exact e
theorem mk_exV {σ : St} {C : Addr} {fl : List Str} {ws : List V} {ta : TA} {n : Nat} (hta : ∀ (H : Hp) (Q : List V → Hp → Prop), Q ws H → ta σ H Q) (hn : ws.length = n) (hf : n = fl.length) (hle : n ≤ 1000) :
    Mk1 σ (C, some (fl.zip ws).reverse) (tExV C n 0 (spE C fl) gR ta tNil) := fun H Q k =>
  hta H _ ⟨hn, hle, rfl, fun a ha => ⟨a, ws, by simp [gR], hn.trans hf, upd_same, fun d H' hd hne h1 h2 h3 => ⟨rfl, k a H' (made_same ha hd hne h3) ⟨d, h1, h2⟩⟩⟩⟩
theorem mk_exK {σ : St} {C : Addr} {fl : List Str} {zs : List V} {tk : TA} {m : Nat} (htk : ∀ (H : Hp) (Q : List V → Hp → Prop), Q zs H → tk σ H Q) (hm : zs.length = m) (hf : m = fl.length) :
    Mk1 σ (C, some (fl.zip zs.reverse).reverse) (tExV C 0 m (spE C fl) gR tNil tk) := fun H Q k =>
  htk H _ ⟨rfl, Nat.zero_le _, hm, fun a ha => ⟨a, zs.reverse, by simp [gR], by rw [List.length_reverse]; exact hm.trans hf, upd_same, fun d H' hd hne h1 h2 h3 => ⟨rfl, k a H' (made_same ha hd hne h3) ⟨d, h1, h2⟩⟩⟩⟩
theorem mk_ex0 {σ : St} {C : Addr} : Mk1 σ (C, none) (fun σ H Q => ∀ a, H a = none → Q (.ref a) (upd H a (exo a C none))) := fun H Q k a ha => k a _ (same_new ha) upd_same
theorem pr_len {H : Hp} {as : List Addr} {P : List Spec} (h : Paired (ErR H) as P) : as.length = P.length := Paired.length h
/-- [e, ..] of errors -/
theorem rd_lst {σ : St} {P : List Spec} {ta : TA} {H : Hp} {Q : VK} (h : Mks σ P ta) (hl : P.length ≤ 1000) (k : ∀ p H', Same H H' → RowAt H' p P → Q (.ref p) H') : tLst ta σ H Q :=
  h H _ fun as H1 s1 e1 => ⟨by rw [List.length_map, pr_len e1]; exact Nat.le_trans hl (by decide), fun p hp => k p _ (s1.trans (same_new hp)) ⟨as, upd_same, pr_same (same_new hp) e1⟩⟩
/-- one list of errors and another -/
theorem rd_cat {σ : St} {P1 P2 : List Spec} {ta tb : TE} {H : Hp} {Q : VK} (h1 : ∀ Q1 : VK, (∀ p H', Same H H' → RowAt H' p P1 → Q1 (.ref p) H') → ta σ H Q1)
    (h2 : ∀ (H1 : Hp) (Q1 : VK), Same H H1 → (∀ p H', Same H1 H' → RowAt H' p P2 → Q1 (.ref p) H') → tb σ H1 Q1) (hl : P1.length + P2.length ≤ 1000)
    (k : ∀ p H', Same H H' → RowAt H' p (P1 ++ P2) → Q (.ref p) H') : tOp rCat ta tb σ H Q := by
  refine h1 _ fun p H1 s1 r1 => h2 H1 _ s1 fun q H2 s2 r2 => ?_
  obtain ⟨as, e1, e2⟩ := r1.same s2
  obtain ⟨bs, e3, e4⟩ := r2
  refine ⟨p, q, _, _, rfl, rfl, e1, e3, ?_, fun x hx => ?_⟩
  · rw [List.length_map, List.length_map, pr_len e2, pr_len e4]
    exact Nat.le_trans hl (by decide)
  · refine k x _ ((s1.trans s2).trans (same_new hx)) ⟨as ++ bs, ?_, pr_same (same_new hx) (pr_app e2 e4)⟩
    rw [upd_same, List.map_append]
theorem rd_var {σ : St} {P : List Spec} {i : Nat} {H : Hp} {p : Addr} (hs : σ[i]? = some (some (.ref p))) (h : RowAt H p P) (Q : VK) (k : ∀ p H', Same H H' → RowAt H' p P → Q (.ref p) H') : tVar i σ H Q := ⟨_, hs, k p H (Same.refl H) h⟩
/-- a list of plain values; one with another -/
theorem rd_lstV {σ : St} {xs : List V} {ta : TA} {H : Hp} {Q : VK} (h : ∀ Q1 : List V → Hp → Prop, Q1 xs H → ta σ H Q1) (hl : xs.length ≤ 1000) (k : ∀ p H', Same H H' → H' p = some (.lst xs) → Q (.ref p) H') : tLst ta σ H Q :=
  h _ ⟨Nat.le_trans hl (by decide), fun p hp => k p _ (same_new hp) upd_same⟩
theorem rd_catV {σ : St} {xs ys : List V} {ta : TA} {H : Hp} {Q : VK} {i : Nat} {p : Addr} (hs : σ[i]? = some (some (.ref p))) (hp : H p = some (.lst xs)) (h : ∀ Q1 : List V → Hp → Prop, Q1 ys H → ta σ H Q1) (hl : xs.length + ys.length ≤ 1000)
    (k : ∀ q H', Same H H' → H' q = some (.lst (xs ++ ys)) → Q (.ref q) H') : tOp rCat (tVar i) (tLst ta) σ H Q := by
  refine ⟨_, hs, rd_lstV h (by omega) fun q H1 s1 h1 => ?_⟩
  exact ⟨p, q, xs, ys, rfl, rfl, s1 p _ hp, h1, Nat.le_trans hl (by decide), fun x hx => k x _ (s1.trans (same_new hx)) upd_same⟩
/-- x = e, return e -/
theorem st_asg {te : TE} {i : Nat} {u : TS} {D : Ends} {σ : St} {H : Hp} (h : te σ H fun x H1 => u D (σ.set i (some x)) H1) : tSeq (tAsg te (gName i)) u D σ H := h
theorem st_nx {D : Ends} {σ : St} {H : Hp} (h : D.nx σ H) : tNext D σ H := h
theorem st_ifl {c : TT} {t e : TS} {D : Ends} {σ : St} {H : Hp} (h : c σ H fun b H1 => if b = true then t D σ H1 else e D σ H1) : tIfS c t e D σ H := h
theorem rd_ne {K : PySem.W.Frag} {ta tb : TE} {σ : St} {H : Hp} {Q : Bool → Hp → Prop} (h : ta σ H fun x H1 => tb σ H1 fun y H2 => rNeD K x y H2 fun z H' => ∃ k, z = .bl k ∧ Q k H') : tTest (tOp (rNeD K) ta tb) σ H Q := h
theorem st_ret {te : TE} {D : Ends} {σ : St} {H : Hp} (h : te σ H D.rt) : tRet te D σ H := h
theorem st_if {c : TT} {t e u : TS} {D : Ends} {σ : St} {H : Hp} (h : c σ H fun b H1 => if b = true then t { D with nx := u D } σ H1 else e { D with nx := u D } σ H1) : tSeq (tIfS c t e) u D σ H := h
/-! data that can be compared -/
def GoodD (d : PyData) : Prop := d.canLay0 = true ∧ d.depth ≤ 5
theorem good_all : ∀ {ds : List PyData}, (∀ d ∈ ds, GoodD d) → PyData.canLayAll0 ds = true ∧ PyData.depthAll ds ≤ 5
  | [], _ => ⟨rfl, Nat.zero_le _⟩
  | d :: ds, h => by
    obtain ⟨h1, h2⟩ := h d (List.mem_cons_self ..)
    obtain ⟨h3, h4⟩ := good_all (ds := ds) fun e he => h e (List.mem_cons_of_mem _ he)
    refine ⟨?_, ?_⟩
    · rw [PyData.canLayAll0, h1, h3] <;> rfl
    · rw [PyData.depthAll]
      exact Nat.max_le.mpr ⟨h2, h4⟩
theorem shaped_list {ds : List PyData} (h : ∀ d ∈ ds, GoodD d) : SeqAt.shaped (.list ds) = true := by
  obtain ⟨h1, h2⟩ := good_all h
  refine Bool.and_eq_true_iff.mpr ⟨?_, decide_eq_true ?_⟩
  · rw [PyData.canLay0]
    exact h1
  · rw [PyData.depth]
    omega
theorem eqv_list {ds : List PyData} (h : ∀ d ∈ ds, GoodD d) : PyData.eqv (.list ds) (.list ds) = true := SeqAt.eqv_refl _ (by
  rw [PyData.canLay0]
  exact (good_all h).1)
def DpG (K : PySem.W.Frag) (H : Hp) (v : V) (d : PyData) : Prop := Dp K H v d ∧ GoodD d
theorem DpG.same {K : PySem.W.Frag} {H H' : Hp} {v : V} {d : PyData} (s : Same H H') (h : DpG K H v d) : DpG K H' v d := ⟨dp_same s h.1, h.2⟩
theorem dpg_int {K : PySem.W.Frag} {H : Hp} (i : Int) : DpG K H (.int i) (.int i) := ⟨.int i, by simp [PyData.canLay0], by simp [PyData.depth]⟩
theorem dpg_bl {K : PySem.W.Frag} {H : Hp} (b : Bool) : DpG K H (.bl b) (.bool b) := ⟨.bl b, by simp [PyData.canLay0], by simp [PyData.depth]⟩
theorem dpg_non {K : PySem.W.Frag} {H : Hp} : DpG K H .non .none := ⟨.non, by simp [PyData.canLay0], by simp [PyData.depth]⟩
theorem dpg_str {K : PySem.W.Frag} {H : Hp} (x : Str) (h : PyData.strOk x = true) : DpG K H (.str x) (.str x) := ⟨.str x, by simp [PyData.canLay0, h], by simp [PyData.depth]⟩
theorem pick6 {K : PySem.W.Frag} {H : Hp} {pt pl : Addr} {nu : Int} (ht : H pt = some (.tup [.int 1, .int 2])) (hl : H pl = some (.lst [.int 3])) {i : Int} (h0 : 0 ≤ i) (h6 : i < 6) :
    ∃ v d, atI [V.int nu, .non, .int (-1), .ref pt, .str "x", .ref pl] i = some v ∧ DpG K H v d := by
  have c : i = 0 ∨ i = 1 ∨ i = 2 ∨ i = 3 ∨ i = 4 ∨ i = 5 := by omega
  rcases c with rfl | rfl | rfl | rfl | rfl | rfl
  · exact ⟨_, _, rfl, dpg_int _⟩
  · exact ⟨_, _, rfl, dpg_non⟩
  · exact ⟨_, _, rfl, dpg_int _⟩
  · exact ⟨_, _, rfl, .tup (SqT.of ht) (.cons (.int 1) (.cons (.int 2) .nil)), by simp [PyData.canLay0, PyData.canLayAll0], by simp [PyData.depth, PyData.depthAll]⟩
  · exact ⟨_, _, rfl, dpg_str _ (by decide +kernel)⟩
  · exact ⟨_, _, rfl, .lst (SqL.of hl) (.cons (.int 3) .nil), by simp [PyData.canLay0, PyData.canLayAll0], by simp [PyData.depth, PyData.depthAll]⟩
theorem dps_of {K : PySem.W.Frag} {H : Hp} : ∀ {vs : List V} {ds : List PyData}, Paired (DpG K H) vs ds → DpAll K H vs ds ∧ ∀ d ∈ ds, GoodD d
  | _, _, .nil => ⟨.nil, fun d h => nomatch h⟩
  | _, _, .cons h hs => by
    obtain ⟨h1, h2⟩ := dps_of hs
    refine ⟨.cons h.1 h1, fun d hd => ?_⟩
    rcases List.mem_cons.mp hd with rfl | hd
    · exact h.2
    · exact h2 d hd
/-- two lists of the same data are not unlike -/
theorem ne_same {K : PySem.W.Frag} {H : Hp} {p q : Addr} {xs ys : List V} {ds : List PyData} {Q : VK} (hp : H p = some (.lst xs)) (hq : H q = some (.lst ys)) (dx : Paired (DpG K H) xs ds) (dy : Paired (DpG K H) ys ds) (h : Q (.bl false) H) :
    rNeD K (.ref p) (.ref q) H Q := by
  obtain ⟨a1, a2⟩ := dps_of dx
  obtain ⟨b1, b2⟩ := dps_of dy
  refine ⟨_, _, .lst (SqL.of hp) a1, .lst (SqL.of hq) b1, shaped_list a2, shaped_list a2, ?_⟩
  rw [eqv_list a2]
  exact h
theorem cut8 {xs : List V} (h : xs.length = 17) : cutV xs (some 8) none = xs.drop 8 := by
  unfold cutV
  rw [h]
  show (xs.drop 8).take 9 = xs.drop 8
  exact List.take_of_length_le (by rw [List.length_drop, h]; decide)
theorem rd_drop {K : PySem.W.Frag} {σ : St} {P : List Spec} {i : Nat} {H : Hp} {Q : VK} {p : Addr} (hs : σ[i]? = some (some (.ref p))) (h : RowAt H p P) (hl : P.length = 17) (k : ∀ p H', Same H H' → RowAt H' p (P.drop 8) → Q (.ref p) H') :
    tSl (rSlL K) (tVar i) (tPart (tC (.int 8))) tNoPart σ H Q := by
  obtain ⟨as, h1, h2⟩ := h
  refine ⟨_, hs, 8, rfl, p, _, rfl, SqL.of h1, fun q hq => k q _ (same_new hq) ⟨as.drop 8, ?_, pr_same (same_new hq) (pr_drop 8 h2)⟩⟩
  rw [upd_same, cut8 (by rw [List.length_map, pr_len h2, hl]), List.map_drop]
/-- row[n].f -/
theorem rd_fld {K : PySem.W.Frag} {σ : St} {P : List Spec} {H : Hp} {Q : VK} {p C : Addr} {f : Str} {n : Nat} {fs : List (Str × V)} {v : V} (hs : σ[6]? = some (some (.ref p))) (h : RowAt H p P) (hp : P[n]? = some (C, some fs)) (X : ExIs K C)
    (hn : PySem.W.findIn K (.ref C) f = some none) (hv : fs.lookup f = some v) (q : Q v H) : tExF K f (tOp (rIxL K) (tVar 6) (tC (.int (n : Int)))) σ H Q := by
  obtain ⟨as, h1, h2⟩ := h
  obtain ⟨a, e1, d, e2, e3⟩ := pr_get h2 hp
  refine ⟨_, hs, p, _, _, _, rfl, rfl, SqL.of h1, atI_nat (j := n) (v := V.ref a) (by rw [List.getElem?_map, e1]; rfl), a, C, d, fs, v, rfl, e2, e3, X, hn, hv, q⟩
/-- what both rows hold -/
def specs (c : Nat → Addr) (th : V) (nu : Int) : List Spec := [(c 0, some [("why", .str "held"), ("at", .int nu), ("thread", th)]), (c 1, some [("name", th)]), (c 2, some [("e", th)]), (c 3, some [("why", th), ("index", .int nu)]),
  (c 4, some [("state", th)]), (c 5, some [("thread", th)]), (c 6, some [("count", th)]), (c 7, some [("line", th)]), (c 8, none), (c 9, none), (c 10, none), (c 11, none), (c 12, none), (c 13, none), (c 14, none), (c 15, none), (c 16, none)]
theorem specs_at {c : Nat → Addr} {th : V} {nu : Int} {i : Nat} (h : i < 17) : ∃ fo, (specs c th nu)[i]? = some (c i, fo) := by
  have e : i = 0 ∨ i = 1 ∨ i = 2 ∨ i = 3 ∨ i = 4 ∨ i = 5 ∨ i = 6 ∨ i = 7 ∨ i = 8 ∨ i = 9 ∨ i = 10 ∨ i = 11 ∨ i = 12 ∨ i = 13 ∨ i = 14 ∨ i = 15 ∨ i = 16 := by omega
  rcases e with rfl | rfl | rfl | rfl | rfl | rfl | rfl | rfl | rfl | rfl | rfl | rfl | rfl | rfl | rfl | rfl | rfl <;> exact ⟨_, rfl⟩
theorem dec_int {j m : Nat} : decide (V.int (0 + (j : Int)) = V.int (m : Int)) = decide (j = m) := by
  by_cases h : j = m
  · subst h
    rw [Int.zero_add, decide_eq_true rfl, decide_eq_true rfl]
  · rw [decide_eq_false h, decide_eq_false]
    intro e
    injection e with e
    omega
theorem dpg_bls {K : PySem.W.Frag} {H : Hp} (f : Nat → Bool) : ∀ l : List Nat, Paired (DpG K H) (l.map fun j => V.bl (f j)) (l.map fun j => PyData.bool (f j))
  | [] => .nil
  | j :: l => .cons (dpg_bl _) (dpg_bls f l)
end K3

namespace K3
open PySem L2
def top (i : Nat) : Stmt := PySem.Challenge.pw_onerun_k03_errors_apart.main.body.getD i (.Pass ⟨0, 0, 0, 0⟩)
abbrev sI0 : Stmt := inClass (top 2) 0
abbrev sI1 : Stmt := inClass (top 3) 0
abbrev sI2 : Stmt := inClass (top 4) 0
abbrev sI3 : Stmt := inClass (top 5) 0
abbrev sI4 : Stmt := inClass (top 6) 0
abbrev sI5 : Stmt := inClass (top 7) 0
abbrev sI6 : Stmt := inClass (top 10) 0
abbrev sI7 : Stmt := inClass (top 14) 0
abbrev sKinds : Stmt := top 20
abbrev sLaw : Stmt := top 21
/-- what the written part tells of an error's class -/
structure Err (K : PySem.W.Frag) (C : Addr) : Prop where
  kC : PySem.W.keepIn K (.ref C) = true
  is : ExIs K C
section
variable {P : Program} {w : World} {K : PySem.W.Frag} {mg : Str → Option Value} {base : Heap}
theorem scI0 : FnScope ["self", "thread", "at", "why"] ["self", "thread", "at", "why"] (defScope sI0) := ⟨rfl, rfl, rfl, by decide +kernel, rfl, by decide +kernel, by decide +kernel⟩
theorem ok_i0 {f C : Addr} {fd : FuncData} (F : Fun K "__init__" "BadLog.__init__" sI0 f fd) (T : OexC K C) (nf : ∀ x ∈ (["thread", "at", "why"] : List Str), PySem.W.findIn K (.ref C) x = some none) : FnOk P w K mg base CX0 1 f fd ["self", "thread", "at", "why"] (spE C ["thread", "at", "why"]) := by
  refine F.ok scI0 (fun vs H Q E h => ?_) (fun cdv A outer s H vs Q E hr h => ?_)
  · obtain ⟨a, ws, rfl, hl, _⟩ := h
    show ws.length + 1 = _
    rw [hl]
    rfl
  · obtain ⟨a, ws, rfl, hl, ha, k⟩ := h
    obtain ⟨w0, w1, w2, rfl⟩ : ∃ w0 w1 w2, ws = [w0, w1, w2] := by
      match ws, hl with
      | [w0, w1, w2], _ => exact ⟨w0, w1, w2, rfl⟩
    refine ⟨_, pss_cons (ps_ost (pv 0) (pv 1)) (pss_cons (ps_ost (pv 0) (pv 2)) (pss_one (ps_ost (pv 0) (pv 3)))), ?_⟩
    refine ⟨_, rfl, _, rfl, a, C, rfl, T, nf _ (by simp), Or.inl ⟨ha, fun dx hn hne => ?_⟩⟩
    refine ⟨_, rfl, _, rfl, a, C, rfl, T, nf _ (by simp), Or.inr ⟨dx, _, upd_same, by rw [upd_ne hne, upd_same], by simp, ?_⟩⟩
    refine ⟨_, rfl, _, rfl, a, C, rfl, T, nf _ (by simp), Or.inr ⟨dx, _, by rw [upd_ne hne.symm, upd_same], upd_same, by simp, ?_⟩⟩
    exact k dx _ hn hne (by rw [upd_ne hne.symm, upd_ne hne.symm, upd_same]) (by rw [upd_same]; rfl) (fun b h1 h2 => by rw [upd_ne h2, upd_ne h2, upd_ne h1, upd_ne h2])
theorem scI1 : FnScope ["self", "name"] ["self", "name"] (defScope sI1) := ⟨rfl, rfl, rfl, by decide +kernel, rfl, by decide +kernel, by decide +kernel⟩
theorem ok_i1 {f C : Addr} {fd : FuncData} (F : Fun K "__init__" "BadFirst.__init__" sI1 f fd) (T : OexC K C) (nf : ∀ x ∈ (["name"] : List Str), PySem.W.findIn K (.ref C) x = some none) : FnOk P w K mg base CX0 1 f fd ["self", "name"] (spE C ["name"]) := by
  refine F.ok scI1 (fun vs H Q E h => ?_) (fun cdv A outer s H vs Q E hr h => ?_)
  · obtain ⟨a, ws, rfl, hl, _⟩ := h
    show ws.length + 1 = _
    rw [hl]
    rfl
  · obtain ⟨a, ws, rfl, hl, ha, k⟩ := h
    obtain ⟨w0, rfl⟩ : ∃ w0, ws = [w0] := by
      match ws, hl with
      | [w0], _ => exact ⟨w0, rfl⟩
    refine ⟨_, pss_one (ps_ost (pv 0) (pv 1)), ?_⟩
    refine ⟨_, rfl, _, rfl, a, C, rfl, T, nf _ (by simp), Or.inl ⟨ha, fun dx hn hne => ?_⟩⟩
    exact k dx _ hn hne upd_same (by rw [upd_ne hne, upd_same]; rfl) (fun b h1 h2 => by rw [upd_ne h1, upd_ne h2])
theorem scI2 : FnScope ["self", "e"] ["self", "e"] (defScope sI2) := ⟨rfl, rfl, rfl, by decide +kernel, rfl, by decide +kernel, by decide +kernel⟩
theorem ok_i2 {f C : Addr} {fd : FuncData} (F : Fun K "__init__" "BadEvent.__init__" sI2 f fd) (T : OexC K C) (nf : ∀ x ∈ (["e"] : List Str), PySem.W.findIn K (.ref C) x = some none) : FnOk P w K mg base CX0 1 f fd ["self", "e"] (spE C ["e"]) := by
  refine F.ok scI2 (fun vs H Q E h => ?_) (fun cdv A outer s H vs Q E hr h => ?_)
  · obtain ⟨a, ws, rfl, hl, _⟩ := h
    show ws.length + 1 = _
    rw [hl]
    rfl
  · obtain ⟨a, ws, rfl, hl, ha, k⟩ := h
    obtain ⟨w0, rfl⟩ : ∃ w0, ws = [w0] := by
      match ws, hl with
      | [w0], _ => exact ⟨w0, rfl⟩
    refine ⟨_, pss_one (ps_ost (pv 0) (pv 1)), ?_⟩
    refine ⟨_, rfl, _, rfl, a, C, rfl, T, nf _ (by simp), Or.inl ⟨ha, fun dx hn hne => ?_⟩⟩
    exact k dx _ hn hne upd_same (by rw [upd_ne hne, upd_same]; rfl) (fun b h1 h2 => by rw [upd_ne h1, upd_ne h2])
theorem scI3 : FnScope ["self", "index", "why"] ["self", "index", "why"] (defScope sI3) := ⟨rfl, rfl, rfl, by decide +kernel, rfl, by decide +kernel, by decide +kernel⟩
theorem ok_i3 {f C : Addr} {fd : FuncData} (F : Fun K "__init__" "BadRun.__init__" sI3 f fd) (T : OexC K C) (nf : ∀ x ∈ (["index", "why"] : List Str), PySem.W.findIn K (.ref C) x = some none) : FnOk P w K mg base CX0 1 f fd ["self", "index", "why"] (spE C ["index", "why"]) := by
  refine F.ok scI3 (fun vs H Q E h => ?_) (fun cdv A outer s H vs Q E hr h => ?_)
  · obtain ⟨a, ws, rfl, hl, _⟩ := h
    show ws.length + 1 = _
    rw [hl]
    rfl
  · obtain ⟨a, ws, rfl, hl, ha, k⟩ := h
    obtain ⟨w0, w1, rfl⟩ : ∃ w0 w1, ws = [w0, w1] := by
      match ws, hl with
      | [w0, w1], _ => exact ⟨w0, w1, rfl⟩
    refine ⟨_, pss_cons (ps_ost (pv 0) (pv 1)) (pss_one (ps_ost (pv 0) (pv 2))), ?_⟩
    refine ⟨_, rfl, _, rfl, a, C, rfl, T, nf _ (by simp), Or.inl ⟨ha, fun dx hn hne => ?_⟩⟩
    refine ⟨_, rfl, _, rfl, a, C, rfl, T, nf _ (by simp), Or.inr ⟨dx, _, upd_same, by rw [upd_ne hne, upd_same], by simp, ?_⟩⟩
    exact k dx _ hn hne (by rw [upd_ne hne.symm, upd_same]) (by rw [upd_same]; rfl) (fun b h1 h2 => by rw [upd_ne h2, upd_ne h1, upd_ne h2])
theorem scI4 : FnScope ["self", "state"] ["self", "state"] (defScope sI4) := ⟨rfl, rfl, rfl, by decide +kernel, rfl, by decide +kernel, by decide +kernel⟩
theorem ok_i4 {f C : Addr} {fd : FuncData} (F : Fun K "__init__" "BadState.__init__" sI4 f fd) (T : OexC K C) (nf : ∀ x ∈ (["state"] : List Str), PySem.W.findIn K (.ref C) x = some none) : FnOk P w K mg base CX0 1 f fd ["self", "state"] (spE C ["state"]) := by
  refine F.ok scI4 (fun vs H Q E h => ?_) (fun cdv A outer s H vs Q E hr h => ?_)
  · obtain ⟨a, ws, rfl, hl, _⟩ := h
    show ws.length + 1 = _
    rw [hl]
    rfl
  · obtain ⟨a, ws, rfl, hl, ha, k⟩ := h
    obtain ⟨w0, rfl⟩ : ∃ w0, ws = [w0] := by
      match ws, hl with
      | [w0], _ => exact ⟨w0, rfl⟩
    refine ⟨_, pss_one (ps_ost (pv 0) (pv 1)), ?_⟩
    refine ⟨_, rfl, _, rfl, a, C, rfl, T, nf _ (by simp), Or.inl ⟨ha, fun dx hn hne => ?_⟩⟩
    exact k dx _ hn hne upd_same (by rw [upd_ne hne, upd_same]; rfl) (fun b h1 h2 => by rw [upd_ne h1, upd_ne h2])
theorem scI5 : FnScope ["self", "thread"] ["self", "thread"] (defScope sI5) := ⟨rfl, rfl, rfl, by decide +kernel, rfl, by decide +kernel, by decide +kernel⟩
theorem ok_i5 {f C : Addr} {fd : FuncData} (F : Fun K "__init__" "BadThread.__init__" sI5 f fd) (T : OexC K C) (nf : ∀ x ∈ (["thread"] : List Str), PySem.W.findIn K (.ref C) x = some none) : FnOk P w K mg base CX0 1 f fd ["self", "thread"] (spE C ["thread"]) := by
  refine F.ok scI5 (fun vs H Q E h => ?_) (fun cdv A outer s H vs Q E hr h => ?_)
  · obtain ⟨a, ws, rfl, hl, _⟩ := h
    show ws.length + 1 = _
    rw [hl]
    rfl
  · obtain ⟨a, ws, rfl, hl, ha, k⟩ := h
    obtain ⟨w0, rfl⟩ : ∃ w0, ws = [w0] := by
      match ws, hl with
      | [w0], _ => exact ⟨w0, rfl⟩
    refine ⟨_, pss_one (ps_ost (pv 0) (pv 1)), ?_⟩
    refine ⟨_, rfl, _, rfl, a, C, rfl, T, nf _ (by simp), Or.inl ⟨ha, fun dx hn hne => ?_⟩⟩
    exact k dx _ hn hne upd_same (by rw [upd_ne hne, upd_same]; rfl) (fun b h1 h2 => by rw [upd_ne h1, upd_ne h2])
theorem scI6 : FnScope ["self", "count"] ["self", "count"] (defScope sI6) := ⟨rfl, rfl, rfl, by decide +kernel, rfl, by decide +kernel, by decide +kernel⟩
theorem ok_i6 {f C : Addr} {fd : FuncData} (F : Fun K "__init__" "BadCount.__init__" sI6 f fd) (T : OexC K C) (nf : ∀ x ∈ (["count"] : List Str), PySem.W.findIn K (.ref C) x = some none) : FnOk P w K mg base CX0 1 f fd ["self", "count"] (spE C ["count"]) := by
  refine F.ok scI6 (fun vs H Q E h => ?_) (fun cdv A outer s H vs Q E hr h => ?_)
  · obtain ⟨a, ws, rfl, hl, _⟩ := h
    show ws.length + 1 = _
    rw [hl]
    rfl
  · obtain ⟨a, ws, rfl, hl, ha, k⟩ := h
    obtain ⟨w0, rfl⟩ : ∃ w0, ws = [w0] := by
      match ws, hl with
      | [w0], _ => exact ⟨w0, rfl⟩
    refine ⟨_, pss_one (ps_ost (pv 0) (pv 1)), ?_⟩
    refine ⟨_, rfl, _, rfl, a, C, rfl, T, nf _ (by simp), Or.inl ⟨ha, fun dx hn hne => ?_⟩⟩
    exact k dx _ hn hne upd_same (by rw [upd_ne hne, upd_same]; rfl) (fun b h1 h2 => by rw [upd_ne h1, upd_ne h2])
theorem scI7 : FnScope ["self", "line"] ["self", "line"] (defScope sI7) := ⟨rfl, rfl, rfl, by decide +kernel, rfl, by decide +kernel, by decide +kernel⟩
theorem ok_i7 {f C : Addr} {fd : FuncData} (F : Fun K "__init__" "BadText.__init__" sI7 f fd) (T : OexC K C) (nf : ∀ x ∈ (["line"] : List Str), PySem.W.findIn K (.ref C) x = some none) : FnOk P w K mg base CX0 1 f fd ["self", "line"] (spE C ["line"]) := by
  refine F.ok scI7 (fun vs H Q E h => ?_) (fun cdv A outer s H vs Q E hr h => ?_)
  · obtain ⟨a, ws, rfl, hl, _⟩ := h
    show ws.length + 1 = _
    rw [hl]
    rfl
  · obtain ⟨a, ws, rfl, hl, ha, k⟩ := h
    obtain ⟨w0, rfl⟩ : ∃ w0, ws = [w0] := by
      match ws, hl with
      | [w0], _ => exact ⟨w0, rfl⟩
    refine ⟨_, pss_one (ps_ost (pv 0) (pv 1)), ?_⟩
    refine ⟨_, rfl, _, rfl, a, C, rfl, T, nf _ (by simp), Or.inl ⟨ha, fun dx hn hne => ?_⟩⟩
    exact k dx _ hn hne upd_same (by rw [upd_ne hne, upd_same]; rfl) (fun b h1 h2 => by rw [upd_ne h1, upd_ne h2])
/-- the classes, in the law's order; c i is where the i-th one stands -/
structure Txt (K : PySem.W.Frag) (mg : Str → Option Value) (c : Nat → Addr) (cL : Addr) : Prop where
  g0 : mg "BadLog" = some (.ref (c 0))
  g1 : mg "BadFirst" = some (.ref (c 1))
  g2 : mg "BadEvent" = some (.ref (c 2))
  g3 : mg "BadRun" = some (.ref (c 3))
  g4 : mg "BadState" = some (.ref (c 4))
  g5 : mg "BadThread" = some (.ref (c 5))
  g6 : mg "BadCount" = some (.ref (c 6))
  g7 : mg "BadText" = some (.ref (c 7))
  g8 : mg "BadPair" = some (.ref (c 8))
  g9 : mg "BadOrder" = some (.ref (c 9))
  g10 : mg "BadCut" = some (.ref (c 10))
  g11 : mg "BadKept" = some (.ref (c 11))
  g12 : mg "BadTimes" = some (.ref (c 12))
  g13 : mg "Impossible" = some (.ref (c 13))
  g14 : mg "NotPlain" = some (.ref (c 14))
  g15 : mg "TooLarge" = some (.ref (c 15))
  g16 : mg "TooMany" = some (.ref (c 16))
  gL : mg "LogError" = some (.ref cL)
  er : ∀ i, i < 17 → Err K (c i)
  kk : ∀ i j, i < 17 → j < 17 → PySem.W.kitOne K (.ref (c i)) (.ref (c j)) = some (decide (j = i))
  kL : ∀ i, i < 17 → PySem.W.kitOne K (.ref (c i)) (.ref cL) = some true
  kV : ∀ i, i < 17 → PySem.W.kitOne K (.ref (c i)) (.type "ValueError") = some true
  isi : mg "isinstance" = none
/-- _law_kinds(err): one True, at its class -/
def spK (c : Nat → Addr) : Sp := fun vs H Q _ => ∃ (a : Addr) (i : Nat) (fo : Fo), vs = [.ref a] ∧ i < 17 ∧ ErAt H a (c i) fo ∧
  ∀ p H', Same H H' → H' p = some (.lst ((List.range 17).map fun j => V.bl (decide (j = i)))) → Q (.ref p) H'
theorem scK : FnScope ["_law_err", "_law_found"] ["_law_err"] (defScope sKinds) := ⟨rfl, rfl, rfl, by decide +kernel, rfl, by decide +kernel, by decide +kernel⟩
theorem ok_kinds {f cL : Addr} {c : Nat → Addr} {fd : FuncData} (F : Fun K "_law_kinds" "_law_kinds" sKinds f fd) (T : Txt K mg c cL) : FnOk P w K mg base CX0 1 f fd ["_law_err"] (spK c) := by
  refine F.ok scK (fun vs H Q E h => ?_) (fun cdv A outer s H vs Q E hr h => ?_)
  · obtain ⟨a, i, fo, rfl, _⟩ := h
    rfl
  · obtain ⟨a, i, fo, rfl, hi, he, k⟩ := h
    refine ⟨_, pss_cons (ps_set (i := 1) scK.nd rfl (Or.inl rfl) (pe_lst (pa_cons (pe_callB call_isiE (by rfl) T.isi PyProof.Rows.boot_isinstance (pa_cons (pv 0) (pa_cons (pe_glob (v := .ref (c 0)) rfl T.g0 rfl) pa_nil))) (pa_cons (pe_callB call_isiE (by rfl) T.isi PyProof.Rows.boot_isinstance (pa_cons (pv 0) (pa_cons (pe_glob (v := .ref (c 1)) rfl T.g1 rfl) pa_nil))) (pa_cons (pe_callB call_isiE (by rfl) T.isi PyProof.Rows.boot_isinstance (pa_cons (pv 0) (pa_cons (pe_glob (v := .ref (c 2)) rfl T.g2 rfl) pa_nil))) pa_nil)))))
      (pss_cons (ps_set (i := 1) scK.nd rfl (Or.inl rfl) (pe_op op_cat (pv 1) (pe_lst (pa_cons (pe_callB call_isiE (by rfl) T.isi PyProof.Rows.boot_isinstance (pa_cons (pv 0) (pa_cons (pe_glob (v := .ref (c 3)) rfl T.g3 rfl) pa_nil))) (pa_cons (pe_callB call_isiE (by rfl) T.isi PyProof.Rows.boot_isinstance (pa_cons (pv 0) (pa_cons (pe_glob (v := .ref (c 4)) rfl T.g4 rfl) pa_nil))) (pa_cons (pe_callB call_isiE (by rfl) T.isi PyProof.Rows.boot_isinstance (pa_cons (pv 0) (pa_cons (pe_glob (v := .ref (c 5)) rfl T.g5 rfl) pa_nil))) pa_nil))))))
      (pss_cons (ps_set (i := 1) scK.nd rfl (Or.inl rfl) (pe_op op_cat (pv 1) (pe_lst (pa_cons (pe_callB call_isiE (by rfl) T.isi PyProof.Rows.boot_isinstance (pa_cons (pv 0) (pa_cons (pe_glob (v := .ref (c 6)) rfl T.g6 rfl) pa_nil))) (pa_cons (pe_callB call_isiE (by rfl) T.isi PyProof.Rows.boot_isinstance (pa_cons (pv 0) (pa_cons (pe_glob (v := .ref (c 7)) rfl T.g7 rfl) pa_nil))) (pa_cons (pe_callB call_isiE (by rfl) T.isi PyProof.Rows.boot_isinstance (pa_cons (pv 0) (pa_cons (pe_glob (v := .ref (c 8)) rfl T.g8 rfl) pa_nil))) pa_nil))))))
      (pss_cons (ps_set (i := 1) scK.nd rfl (Or.inl rfl) (pe_op op_cat (pv 1) (pe_lst (pa_cons (pe_callB call_isiE (by rfl) T.isi PyProof.Rows.boot_isinstance (pa_cons (pv 0) (pa_cons (pe_glob (v := .ref (c 9)) rfl T.g9 rfl) pa_nil))) (pa_cons (pe_callB call_isiE (by rfl) T.isi PyProof.Rows.boot_isinstance (pa_cons (pv 0) (pa_cons (pe_glob (v := .ref (c 10)) rfl T.g10 rfl) pa_nil))) (pa_cons (pe_callB call_isiE (by rfl) T.isi PyProof.Rows.boot_isinstance (pa_cons (pv 0) (pa_cons (pe_glob (v := .ref (c 11)) rfl T.g11 rfl) pa_nil))) pa_nil))))))
      (pss_cons (ps_set (i := 1) scK.nd rfl (Or.inl rfl) (pe_op op_cat (pv 1) (pe_lst (pa_cons (pe_callB call_isiE (by rfl) T.isi PyProof.Rows.boot_isinstance (pa_cons (pv 0) (pa_cons (pe_glob (v := .ref (c 12)) rfl T.g12 rfl) pa_nil))) (pa_cons (pe_callB call_isiE (by rfl) T.isi PyProof.Rows.boot_isinstance (pa_cons (pv 0) (pa_cons (pe_glob (v := .ref (c 13)) rfl T.g13 rfl) pa_nil))) (pa_cons (pe_callB call_isiE (by rfl) T.isi PyProof.Rows.boot_isinstance (pa_cons (pv 0) (pa_cons (pe_glob (v := .ref (c 14)) rfl T.g14 rfl) pa_nil))) pa_nil))))))
      (pss_one (ps_ret (pe_op op_cat (pv 1) (pe_lst (pa_cons (pe_callB call_isiE (by rfl) T.isi PyProof.Rows.boot_isinstance (pa_cons (pv 0) (pa_cons (pe_glob (v := .ref (c 15)) rfl T.g15 rfl) pa_nil))) (pa_cons (pe_callB call_isiE (by rfl) T.isi PyProof.Rows.boot_isinstance (pa_cons (pv 0) (pa_cons (pe_glob (v := .ref (c 16)) rfl T.g16 rfl) pa_nil))) pa_nil)))))))))), ?_⟩
    have hx : ∀ {H1 : Hp}, Same H H1 → ∃ d : Option Addr, H1 a = some (exo a (c i) d) ∧ ∀ b, d = some b → ∃ fs, H1 b = some (exd b fs) := fun s1 => (he.same s1).ex
    have E1 := (T.er i hi).is
    have s0 : Same H H := Same.refl H
    obtain ⟨d0, x0, y0⟩ := hx s0
    refine st_asg ?_
    refine rd_lstV (xs := [V.bl (decide (0 = i)), V.bl (decide (1 = i)), V.bl (decide (2 = i))]) (fun Q1 q1 => ⟨_, rfl, a, c i, d0, _, _, _, rfl, .own _, x0, y0, E1, T.kk i 0 hi (by decide), _, rfl, a, c i, d0, _, _, _, rfl, .own _, x0, y0, E1, T.kk i 1 hi (by decide), _, rfl, a, c i, d0, _, _, _, rfl, .own _, x0, y0, E1, T.kk i 2 hi (by decide), q1⟩) (by show 3 ≤ 1000; decide) (fun p1 H1 t1 h1 => ?_)
    have s1 : Same H H1 := s0.trans t1
    obtain ⟨d1, x1, y1⟩ := hx s1
    refine st_asg ?_
    refine rd_catV (ys := [V.bl (decide (3 = i)), V.bl (decide (4 = i)), V.bl (decide (5 = i))]) rfl h1 (fun Q1 q1 => ⟨_, rfl, a, c i, d1, _, _, _, rfl, .own _, x1, y1, E1, T.kk i 3 hi (by decide), _, rfl, a, c i, d1, _, _, _, rfl, .own _, x1, y1, E1, T.kk i 4 hi (by decide), _, rfl, a, c i, d1, _, _, _, rfl, .own _, x1, y1, E1, T.kk i 5 hi (by decide), q1⟩) (by show 3 + 3 ≤ 1000; decide) (fun p2 H2 t2 h2 => ?_)
    have s2 : Same H H2 := s1.trans t2
    obtain ⟨d2, x2, y2⟩ := hx s2
    refine st_asg ?_
    refine rd_catV (ys := [V.bl (decide (6 = i)), V.bl (decide (7 = i)), V.bl (decide (8 = i))]) rfl h2 (fun Q1 q1 => ⟨_, rfl, a, c i, d2, _, _, _, rfl, .own _, x2, y2, E1, T.kk i 6 hi (by decide), _, rfl, a, c i, d2, _, _, _, rfl, .own _, x2, y2, E1, T.kk i 7 hi (by decide), _, rfl, a, c i, d2, _, _, _, rfl, .own _, x2, y2, E1, T.kk i 8 hi (by decide), q1⟩) (by show 6 + 3 ≤ 1000; decide) (fun p3 H3 t3 h3 => ?_)
    have s3 : Same H H3 := s2.trans t3
    obtain ⟨d3, x3, y3⟩ := hx s3
    refine st_asg ?_
    refine rd_catV (ys := [V.bl (decide (9 = i)), V.bl (decide (10 = i)), V.bl (decide (11 = i))]) rfl h3 (fun Q1 q1 => ⟨_, rfl, a, c i, d3, _, _, _, rfl, .own _, x3, y3, E1, T.kk i 9 hi (by decide), _, rfl, a, c i, d3, _, _, _, rfl, .own _, x3, y3, E1, T.kk i 10 hi (by decide), _, rfl, a, c i, d3, _, _, _, rfl, .own _, x3, y3, E1, T.kk i 11 hi (by decide), q1⟩) (by show 9 + 3 ≤ 1000; decide) (fun p4 H4 t4 h4 => ?_)
    have s4 : Same H H4 := s3.trans t4
    obtain ⟨d4, x4, y4⟩ := hx s4
    refine st_asg ?_
    refine rd_catV (ys := [V.bl (decide (12 = i)), V.bl (decide (13 = i)), V.bl (decide (14 = i))]) rfl h4 (fun Q1 q1 => ⟨_, rfl, a, c i, d4, _, _, _, rfl, .own _, x4, y4, E1, T.kk i 12 hi (by decide), _, rfl, a, c i, d4, _, _, _, rfl, .own _, x4, y4, E1, T.kk i 13 hi (by decide), _, rfl, a, c i, d4, _, _, _, rfl, .own _, x4, y4, E1, T.kk i 14 hi (by decide), q1⟩) (by show 12 + 3 ≤ 1000; decide) (fun p5 H5 t5 h5 => ?_)
    have s5 : Same H H5 := s4.trans t5
    obtain ⟨d5, x5, y5⟩ := hx s5
    refine st_ret ?_
    refine rd_catV (ys := [V.bl (decide (15 = i)), V.bl (decide (16 = i))]) rfl h5 (fun Q1 q1 => ⟨_, rfl, a, c i, d5, _, _, _, rfl, .own _, x5, y5, E1, T.kk i 15 hi (by decide), _, rfl, a, c i, d5, _, _, _, rfl, .own _, x5, y5, E1, T.kk i 16 hi (by decide), q1⟩) (by show 15 + 2 ≤ 1000; decide) (fun p6 H6 t6 h6 => ?_)
    have s6 : Same H H6 := s5.trans t6
    exact k p6 H6 s6 h6
end
end K3

namespace K3
open PySem L2
abbrev NL : List Str := ["_law_script", "_law_cell", "_law_number", "_law_thing", "_law_some", "_law_named", "_law_row", "_law_k", "_law_err", "_law_kept", "_law_other"]
theorem scL : FnScope NL ["_law_script"] (defScope sLaw) := ⟨rfl, rfl, rfl, by decide +kernel, rfl, by decide +kernel, by decide +kernel⟩
def spLaw (K : PySem.W.Frag) : Sp := fun vs H Q _ => ∃ (a : Addr) (ns : List Int), vs = [.ref a] ∧ SqL K H a (ns.map V.int) ∧ ns.length ≤ 63 ∧ ∀ H', Q (.bl true) H'
abbrev bmVE : List Value := [.type "ValueError", .type "Exception", .type "BaseException", .type "object"]
/-- what the law's walk wants of the makers' text -/
structure Bd (P : Program) (w : World) (K : PySem.W.Frag) (mg : Str → Option Value) (base : Heap) (c fI : Nat → Addr) (fd : Nat → FuncData) (fK : Addr) (fdK : FuncData) : Prop where
  O : ∀ i, i < 8 → OexC K (c i)
  iC : ∀ i, i < 8 → PySem.W.findIn K (.ref (c i)) "__init__" = some (some (.ref (fI i)))
  tI : ∀ i, i < 8 → PySem.W.typeIn K (.ref (fI i)) = some (.type "function")
  q : ∀ i, 8 ≤ i → i < 17 → PySem.W.excIn K (c i) bmVE "ValueError.__new__" = true
  G0 : FnOk P w K mg base CX0 1 (fI 0) (fd 0) ["self", "thread", "at", "why"] (spE (c 0) ["thread", "at", "why"])
  bp0 : KBn K (fd 0) ["self", "thread", "at", "why"] (3 + 1) [] gR gR
  bk0 : KBn K (fd 0) ["self", "thread", "at", "why"] (0 + 1) ["why", "at", "thread"] gR gR
  G1 : FnOk P w K mg base CX0 1 (fI 1) (fd 1) ["self", "name"] (spE (c 1) ["name"])
  bp1 : KBn K (fd 1) ["self", "name"] (1 + 1) [] gR gR
  bk1 : KBn K (fd 1) ["self", "name"] (0 + 1) ["name"] gR gR
  G2 : FnOk P w K mg base CX0 1 (fI 2) (fd 2) ["self", "e"] (spE (c 2) ["e"])
  bp2 : KBn K (fd 2) ["self", "e"] (1 + 1) [] gR gR
  bk2 : KBn K (fd 2) ["self", "e"] (0 + 1) ["e"] gR gR
  G3 : FnOk P w K mg base CX0 1 (fI 3) (fd 3) ["self", "index", "why"] (spE (c 3) ["index", "why"])
  bp3 : KBn K (fd 3) ["self", "index", "why"] (2 + 1) [] gR gR
  bk3 : KBn K (fd 3) ["self", "index", "why"] (0 + 1) ["why", "index"] gR gR
  G4 : FnOk P w K mg base CX0 1 (fI 4) (fd 4) ["self", "state"] (spE (c 4) ["state"])
  bp4 : KBn K (fd 4) ["self", "state"] (1 + 1) [] gR gR
  bk4 : KBn K (fd 4) ["self", "state"] (0 + 1) ["state"] gR gR
  G5 : FnOk P w K mg base CX0 1 (fI 5) (fd 5) ["self", "thread"] (spE (c 5) ["thread"])
  bp5 : KBn K (fd 5) ["self", "thread"] (1 + 1) [] gR gR
  bk5 : KBn K (fd 5) ["self", "thread"] (0 + 1) ["thread"] gR gR
  G6 : FnOk P w K mg base CX0 1 (fI 6) (fd 6) ["self", "count"] (spE (c 6) ["count"])
  bp6 : KBn K (fd 6) ["self", "count"] (1 + 1) [] gR gR
  bk6 : KBn K (fd 6) ["self", "count"] (0 + 1) ["count"] gR gR
  G7 : FnOk P w K mg base CX0 1 (fI 7) (fd 7) ["self", "line"] (spE (c 7) ["line"])
  bp7 : KBn K (fd 7) ["self", "line"] (1 + 1) [] gR gR
  bk7 : KBn K (fd 7) ["self", "line"] (0 + 1) ["line"] gR gR
  GK : FnOk P w K mg base CX0 1 fK fdK ["_law_err"] (spK c)
  gK : mg "_law_kinds" = some (.ref fK)
  kK : PySem.W.keepIn K (.ref fK) = true
  bK : Binds K fdK ["_law_err"] []
  nf : ∀ i f, (i, f) ∈ ([(0, "thread"), (0, "at"), (0, "why"), (1, "name"), (2, "e"), (3, "index"), (3, "why"), (4, "state"), (5, "thread"), (6, "count"), (7, "line")] : List (Nat × Str)) → PySem.W.findIn K (.ref (c i)) f = some none
  mInt : mg "int" = none
  mVE : mg "ValueError" = none
  mRange : mg "range" = none
  mEnum : mg "enumerate" = none
section
variable {P : Program} {w : World} {K : PySem.W.Frag} {mg : Str → Option Value} {base : Heap} {f fK cL : Addr} {c fI : Nat → Addr} {fd fdK : FuncData} {fdI : Nat → FuncData}
theorem ok_law (F : Fun K "law" "law" sLaw f fd) (T : Txt K mg c cL) (B : Bd P w K mg base c fI fdI fK fdK) : FnOk P w K mg base CX0 3 f fd ["_law_script"] (spLaw K) := by
  refine F.ok scL (fun vs H Q E h => ?_) (fun cdv A outer s H vs Q E hr h => ?_)
  · obtain ⟨a, ns, rfl, _⟩ := h
    rfl
  · obtain ⟨a, ns, rfl, hS, hlen, k⟩ := h
    refine ⟨_, pss_cons (ps_for PassesOwn.never rfl (pi_list (pe_op op_cat (pe_slice sl_list (pv 0) po_none (po_some pe_int)) (pe_lst (pa_cons pe_int pa_nil)))) (pg_name (i := 1) scL.nd rfl (Or.inl rfl))
      (pss_cons (ps_set (i := 2) scL.nd rfl (Or.inl rfl) (pe_op op_sub (pe_op op_mod (pe_callTy call_int1 (by rfl) B.mInt PyProof.Rows.boot_int (pa_cons (pv 1) pa_nil)) (pe_op op_add (pe_op op_mul pe_int (pe_op op_pow pe_int pe_int)) pe_int)) (pe_op op_pow pe_int pe_int)))
        (pss_cons (ps_set (i := 3) scL.nd rfl (Or.inl rfl) (pe_ix ix_list (pe_lst (pa_cons (pv 2) (pa_cons pe_non (pa_cons (pe_un un_neg pe_int) (pa_cons (pe_tup (pa_cons pe_int (pa_cons pe_int pa_nil))) (pa_cons pe_str (pa_cons (pe_lst (pa_cons pe_int pa_nil)) pa_nil))))))) (pe_op op_mod (pe_callTy call_int1 (by rfl) B.mInt PyProof.Rows.boot_int (pa_cons (pv 2) pa_nil)) pe_int) (fun _ _ => rfl)))
        (pss_cons (ps_set (i := 4) scL.nd rfl (Or.inl rfl) (pe_lst (pa_cons (pe_exV (n := 3) (B.O 0 (by decide)) (B.iC 0 (by decide)) (B.tI 0 (by decide)) B.G0 hr B.bp0 pass0 (by rfl) T.g0 (pa_cons (pv 3) (pa_cons (pv 2) (pa_cons pe_str pa_nil)))) (pa_cons (pe_exV (n := 1) (B.O 1 (by decide)) (B.iC 1 (by decide)) (B.tI 1 (by decide)) B.G1 hr B.bp1 pass0 (by rfl) T.g1 (pa_cons (pv 3) pa_nil)) (pa_cons (pe_exV (n := 1) (B.O 2 (by decide)) (B.iC 2 (by decide)) (B.tI 2 (by decide)) B.G2 hr B.bp2 pass0 (by rfl) T.g2 (pa_cons (pv 3) pa_nil)) (pa_cons (pe_exV (n := 2) (B.O 3 (by decide)) (B.iC 3 (by decide)) (B.tI 3 (by decide)) B.G3 hr B.bp3 pass0 (by rfl) T.g3 (pa_cons (pv 2) (pa_cons (pv 3) pa_nil))) (pa_cons (pe_exV (n := 1) (B.O 4 (by decide)) (B.iC 4 (by decide)) (B.tI 4 (by decide)) B.G4 hr B.bp4 pass0 (by rfl) T.g4 (pa_cons (pv 3) pa_nil)) pa_nil)))))))
        (pss_cons (ps_set (i := 4) scL.nd rfl (Or.inl rfl) (pe_op op_cat (pv 4) (pe_lst (pa_cons (pe_exV (n := 1) (B.O 5 (by decide)) (B.iC 5 (by decide)) (B.tI 5 (by decide)) B.G5 hr B.bp5 pass0 (by rfl) T.g5 (pa_cons (pv 3) pa_nil)) (pa_cons (pe_exV (n := 1) (B.O 6 (by decide)) (B.iC 6 (by decide)) (B.tI 6 (by decide)) B.G6 hr B.bp6 pass0 (by rfl) T.g6 (pa_cons (pv 3) pa_nil)) (pa_cons (pe_exV (n := 1) (B.O 7 (by decide)) (B.iC 7 (by decide)) (B.tI 7 (by decide)) B.G7 hr B.bp7 pass0 (by rfl) T.g7 (pa_cons (pv 3) pa_nil)) (pa_cons (pe_ex0 PySem.F.excBase_ValueError (B.q 8 (by decide) (by decide)) T.g8 (T.er 8 (by decide)).kC (by rfl)) (pa_cons (pe_ex0 PySem.F.excBase_ValueError (B.q 9 (by decide) (by decide)) T.g9 (T.er 9 (by decide)).kC (by rfl)) (pa_cons (pe_ex0 PySem.F.excBase_ValueError (B.q 10 (by decide) (by decide)) T.g10 (T.er 10 (by decide)).kC (by rfl)) (pa_cons (pe_ex0 PySem.F.excBase_ValueError (B.q 11 (by decide) (by decide)) T.g11 (T.er 11 (by decide)).kC (by rfl)) pa_nil))))))))))
        (pss_cons (ps_set (i := 4) scL.nd rfl (Or.inl rfl) (pe_op op_cat (pv 4) (pe_lst (pa_cons (pe_ex0 PySem.F.excBase_ValueError (B.q 12 (by decide) (by decide)) T.g12 (T.er 12 (by decide)).kC (by rfl)) (pa_cons (pe_ex0 PySem.F.excBase_ValueError (B.q 13 (by decide) (by decide)) T.g13 (T.er 13 (by decide)).kC (by rfl)) (pa_cons (pe_ex0 PySem.F.excBase_ValueError (B.q 14 (by decide) (by decide)) T.g14 (T.er 14 (by decide)).kC (by rfl)) (pa_cons (pe_ex0 PySem.F.excBase_ValueError (B.q 15 (by decide) (by decide)) T.g15 (T.er 15 (by decide)).kC (by rfl)) (pa_cons (pe_ex0 PySem.F.excBase_ValueError (B.q 16 (by decide) (by decide)) T.g16 (T.er 16 (by decide)).kC (by rfl)) pa_nil))))))))
        (pss_cons (ps_set (i := 5) scL.nd rfl (Or.inl rfl) (pe_lst (pa_cons (pe_exK (ks := ["why", "at", "thread"]) (B.O 0 (by decide)) (B.iC 0 (by decide)) (B.tI 0 (by decide)) B.G0 hr B.bk0 pass0 (by rfl) T.g0 (pk_cons pe_str (pk_cons (pv 2) (pk_cons (pv 3) pk_nil)))) (pa_cons (pe_exK (ks := ["name"]) (B.O 1 (by decide)) (B.iC 1 (by decide)) (B.tI 1 (by decide)) B.G1 hr B.bk1 pass0 (by rfl) T.g1 (pk_cons (pv 3) pk_nil)) (pa_cons (pe_exK (ks := ["e"]) (B.O 2 (by decide)) (B.iC 2 (by decide)) (B.tI 2 (by decide)) B.G2 hr B.bk2 pass0 (by rfl) T.g2 (pk_cons (pv 3) pk_nil)) pa_nil)))))
        (pss_cons (ps_set (i := 5) scL.nd rfl (Or.inl rfl) (pe_op op_cat (pv 5) (pe_lst (pa_cons (pe_exK (ks := ["why", "index"]) (B.O 3 (by decide)) (B.iC 3 (by decide)) (B.tI 3 (by decide)) B.G3 hr B.bk3 pass0 (by rfl) T.g3 (pk_cons (pv 3) (pk_cons (pv 2) pk_nil))) (pa_cons (pe_exK (ks := ["state"]) (B.O 4 (by decide)) (B.iC 4 (by decide)) (B.tI 4 (by decide)) B.G4 hr B.bk4 pass0 (by rfl) T.g4 (pk_cons (pv 3) pk_nil)) (pa_cons (pe_exK (ks := ["thread"]) (B.O 5 (by decide)) (B.iC 5 (by decide)) (B.tI 5 (by decide)) B.G5 hr B.bk5 pass0 (by rfl) T.g5 (pk_cons (pv 3) pk_nil)) pa_nil))))))
        (pss_cons (ps_set (i := 5) scL.nd rfl (Or.inl rfl) (pe_op op_cat (pe_op op_cat (pv 5) (pe_lst (pa_cons (pe_exK (ks := ["count"]) (B.O 6 (by decide)) (B.iC 6 (by decide)) (B.tI 6 (by decide)) B.G6 hr B.bk6 pass0 (by rfl) T.g6 (pk_cons (pv 3) pk_nil)) (pa_cons (pe_exK (ks := ["line"]) (B.O 7 (by decide)) (B.iC 7 (by decide)) (B.tI 7 (by decide)) B.G7 hr B.bk7 pass0 (by rfl) T.g7 (pk_cons (pv 3) pk_nil)) pa_nil)))) (pe_slice sl_list (pv 4) (po_some pe_int) po_none)))
        (pss_one (ps_for PassesOwn.never rfl (pi_list (pe_lst (pa_cons (pv 4) (pa_cons (pv 5) pa_nil)))) (pg_name (i := 6) scL.nd rfl (Or.inl rfl))
        (pss_cons (ps_for PassesOwn.never rfl (pi_enum (by rfl) B.mEnum (pa_cons (pv 6) pa_nil)) (pg_tup rfl (pgs_cons (pg_name (i := 7) scL.nd rfl (Or.inr rfl)) (pgs_cons (pg_name (i := 8) scL.nd rfl (Or.inl rfl)) pgs_nil)))
        (pss_cons (ps_if (PW.pt (pw_or (pt_not (pt_val (pe_callB call_isiE (by rfl) T.isi PyProof.Rows.boot_isinstance (pa_cons (pv 8) (pa_cons (pe_glob (v := .ref cL) rfl T.gL rfl) pa_nil))))) (pw_or1 (pt_not (pt_val (pe_callB call_isiE (by rfl) T.isi PyProof.Rows.boot_isinstance (pa_cons (pv 8) (pa_cons (pe_bltn (v := .ty "ValueError") rfl B.mVE PyProof.Rows.Boot.«ValueError» rfl) pa_nil)))))))) (pss_one (ps_ret pe_bl)) pss_nil)
        (pss_one (ps_if (pt_cmpR (op_neD hr.units) (pe_call B.GK (hr.mono (by decide)) rfl B.gK B.kK B.bK .nil pass0 (pa_cons (pv 8) pa_nil)) (pe_lc (own := [("_law_other", 10)]) (g := gName 10) (tt := tYes) rfl scL.nd (pi_range1 rfl B.mRange (pa_cons pe_int pa_nil)) (blkOk_by (own := [("_law_other", 10)]) (N := NL) (sc := defScope sLaw) (by decide +kernel)) (fun _ _ _ _ _ => pg_name (i := 10) scL.nd rfl (Or.inl rfl)) (fun _ _ _ _ _ => pts_nil) (fun _ _ _ _ _ => pe_cmpR op_eq (pv 10) (pv 7) (nomark _))) (nomark _)) (pss_one (ps_ret pe_bl)) pss_nil))))
        (pss_cons (ps_set (i := 9) scL.nd rfl (Or.inl rfl) (pe_lst (pa_cons (pe_exF (pe_ix ix_list (pv 6) pe_int (fun _ _ => rfl))) (pa_cons (pe_exF (pe_ix ix_list (pv 6) pe_int (fun _ _ => rfl))) (pa_cons (pe_exF (pe_ix ix_list (pv 6) pe_int (fun _ _ => rfl))) (pa_cons (pe_exF (pe_ix ix_list (pv 6) pe_int (fun _ _ => rfl))) (pa_cons (pe_exF (pe_ix ix_list (pv 6) pe_int (fun _ _ => rfl))) (pa_cons (pe_exF (pe_ix ix_list (pv 6) pe_int (fun _ _ => rfl))) (pa_cons (pe_exF (pe_ix ix_list (pv 6) pe_int (fun _ _ => rfl))) pa_nil)))))))))
        (pss_cons (ps_if (pt_cmpR (op_neD hr.units) (pv 9) (pe_lst (pa_cons (pv 3) (pa_cons (pv 2) (pa_cons pe_str (pa_cons (pv 3) (pa_cons (pv 3) (pa_cons (pv 2) (pa_cons (pv 3) pa_nil)))))))) (nomark _)) (pss_one (ps_ret pe_bl)) pss_nil)
        (pss_one (ps_if (pt_cmpR (op_neD hr.units) (pe_lst (pa_cons (pe_exF (pe_ix ix_list (pv 6) pe_int (fun _ _ => rfl))) (pa_cons (pe_exF (pe_ix ix_list (pv 6) pe_int (fun _ _ => rfl))) (pa_cons (pe_exF (pe_ix ix_list (pv 6) pe_int (fun _ _ => rfl))) (pa_cons (pe_exF (pe_ix ix_list (pv 6) pe_int (fun _ _ => rfl))) pa_nil))))) (pe_op op_rep (pe_lst (pa_cons (pv 3) pa_nil)) pe_int) (nomark _)) (pss_one (ps_ret pe_bl)) pss_nil))))))))))))))))
      (pss_one (ps_ret pe_bl)), ?_⟩
    -- script[:10] + [0]
    refine ⟨_, rfl, 10, rfl, a, _, rfl, hS, fun p1 hp1 => ?_⟩
    refine ⟨by show 1 ≤ sizeLine; decide, fun p2 hp2 => ?_⟩
    refine ⟨p1, p2, _, _, rfl, rfl, by rw [upd_ne (ne_of_none upd_same hp2)]; exact upd_same, upd_same, ?_, fun p3 hp3 => ?_⟩
    · have e := cutV_length (ns.map V.int) none (some 10)
      rw [List.length_map] at e
      exact Nat.le_trans (Nat.add_le_add_right (Nat.le_trans e hlen) _) (by decide)
    have hint : ∀ x ∈ cutV (ns.map V.int) none (some 10) ++ [V.int 0], ∃ z, x = V.int z := fun x hx => by
      rcases List.mem_append.mp hx with hx | hx
      · have hx := List.mem_of_mem_drop (List.mem_of_mem_take hx)
        obtain ⟨z, _, rfl⟩ := List.mem_map.mp hx
        exact ⟨z, rfl⟩
      · rw [List.mem_singleton] at hx
        exact ⟨0, hx⟩
    generalize cutV (ns.map V.int) none (some 10) ++ [V.int 0] = xs at hint ⊢
    refine ⟨p3, rfl, ⟨xs, SqL.of upd_same⟩, ?_⟩
    generalize eH : upd (upd (upd H p1 (HO.lst (cutV (ns.map V.int) none (some 10)))) p2 (HO.lst [V.int 0])) p3 (HO.lst xs) = H3
    have h3 : H3 p3 = some (.lst xs) := by rw [← eH]; exact upd_same
    refine for_list (K := K) (a := p3) (xs := xs) (fun i σ H' => (∃ v1 v2 v3 v4 v5 v6 v7 v8 v9 v10 : Option V, σ = [some (.ref a), v1, v2, v3, v4, v5, v6, v7, v8, v9, v10]) ∧ Same H3 H')
      ⟨⟨_, _, _, _, _, _, _, _, _, _, rfl⟩, Same.refl _⟩ (fun i σ H' _ ⟨_, s4⟩ => s4.seq (SqL.of h3)) ?_ (fun σ H' _ => k H')
    rintro i x σ H4 hi ⟨⟨v1, v2, v3, v4, v5, v6, v7, v8, v9, v10, rfl⟩, s4⟩
    obtain ⟨z, rfl⟩ := hint x (List.mem_of_getElem? hi)
    -- _law_number
    refine st_asg ?_
    refine ⟨_, rfl, Or.inl ⟨z, rfl, 10, 40, rfl, rfl, ⟨by decide, by decide, by decide⟩, 2, _, rfl, rfl, Or.inl ⟨by decide, by decide⟩, _, _, rfl, rfl, _, _, rfl, rfl, (by show (0 : Int) < 2 * 10 ^ (40 : Int).toNat + 1; decide +kernel), 10, 40, rfl, rfl, ⟨by decide, by decide, by decide⟩, _, _, rfl, rfl, ?_⟩⟩
    dsimp only
    generalize z % (2 * 10 ^ (40 : Int).toNat + 1) - 10 ^ (40 : Int).toNat = nu
    -- _law_thing
    refine st_asg ?_
    refine ⟨_, rfl, 1, rfl, by show 2 ≤ sizeLine; decide, fun pt hpt => ?_⟩
    refine ⟨by show 1 ≤ sizeLine; decide, fun pl hpl => ?_⟩
    refine ⟨by show 6 ≤ sizeLine; decide, fun p6 hp6 => ?_⟩
    obtain ⟨th, dt, hat, hdt⟩ := pick6 (K := K) (H := upd (upd (upd H4 pt (.tup [.int 1, .int 2])) pl (.lst [.int 3])) p6 (.lst [V.int nu, .non, .int (-1), .ref pt, .str "x", .ref pl])) (pt := pt) (pl := pl) (nu := nu)
      (by rw [upd_ne (ne_of_none (by rw [upd_ne (ne_of_none upd_same hpl)]; exact upd_same) hp6), upd_ne (ne_of_none upd_same hpl)]; exact upd_same)
      (by rw [upd_ne (ne_of_none upd_same hp6)]; exact upd_same) (i := nu % 6) (Int.emod_nonneg _ (by decide)) (Int.emod_lt_of_pos _ (by decide))
    refine ⟨_, rfl, Or.inl ⟨nu, rfl, _, _, rfl, rfl, (by show (0 : Int) < 6; decide), p6, _, _, th, rfl, rfl, SqL.of upd_same, hat, ?_⟩⟩
    have s5 : Same H4 (upd (upd (upd H4 pt (.tup [.int 1, .int 2])) pl (.lst [.int 3])) p6 (.lst [V.int nu, .non, .int (-1), .ref pt, .str "x", .ref pl])) := ((same_new hpt).trans (same_new hpl)).trans (same_new hp6)
    generalize upd (upd (upd H4 pt (.tup [.int 1, .int 2])) pl (.lst [.int 3])) p6 (.lst [V.int nu, .non, .int (-1), .ref pt, .str "x", .ref pl]) = H5 at hdt s5 ⊢
    replace s5 : Same H3 H5 := s4.trans s5
    -- _law_some
    refine st_asg ?_
    refine rd_lst (mks_cons (mk_exV (ws := [th, .int nu, .str "held"]) (fun _ _ q => ⟨_, rfl, _, rfl, q⟩) rfl rfl (by decide)) (mks_cons (mk_exV (ws := [th]) (fun _ _ q => ⟨_, rfl, q⟩) rfl rfl (by decide)) (mks_cons (mk_exV (ws := [th]) (fun _ _ q => ⟨_, rfl, q⟩) rfl rfl (by decide)) (mks_cons (mk_exV (ws := [.int nu, th]) (fun _ _ q => ⟨_, rfl, _, rfl, q⟩) rfl rfl (by decide)) (mks_cons (mk_exV (ws := [th]) (fun _ _ q => ⟨_, rfl, q⟩) rfl rfl (by decide)) mks_nil))))) (by show 5 ≤ 1000; decide) (fun q1 H6 t6 r1 => ?_)
    refine st_asg ?_
    refine rd_cat (fun Q1 k1 => rd_var rfl r1 Q1 k1) (fun H1 Q1 _ k1 => rd_lst (mks_cons (mk_exV (ws := [th]) (fun _ _ q => ⟨_, rfl, q⟩) rfl rfl (by decide)) (mks_cons (mk_exV (ws := [th]) (fun _ _ q => ⟨_, rfl, q⟩) rfl rfl (by decide)) (mks_cons (mk_exV (ws := [th]) (fun _ _ q => ⟨_, rfl, q⟩) rfl rfl (by decide)) (mks_cons mk_ex0 (mks_cons mk_ex0 (mks_cons mk_ex0 (mks_cons mk_ex0 mks_nil))))))) (by show 7 ≤ 1000; decide) k1) (by show 5 + 7 ≤ 1000; decide) (fun q2 H7 t7 r2 => ?_)
    refine st_asg ?_
    refine rd_cat (fun Q1 k1 => rd_var rfl r2 Q1 k1) (fun H1 Q1 _ k1 => rd_lst (mks_cons mk_ex0 (mks_cons mk_ex0 (mks_cons mk_ex0 (mks_cons mk_ex0 (mks_cons mk_ex0 mks_nil))))) (by show 5 ≤ 1000; decide) k1) (by show 12 + 5 ≤ 1000; decide) (fun ps H8 t8 rs => ?_)
    replace rs : RowAt H8 ps (specs c th nu) := rs
    -- _law_named
    refine st_asg ?_
    refine rd_lst (mks_cons (mk_exK (zs := [.str "held", .int nu, th]) (fun _ _ q => ⟨_, rfl, _, rfl, q⟩) rfl rfl) (mks_cons (mk_exK (zs := [th]) (fun _ _ q => ⟨_, rfl, q⟩) rfl rfl) (mks_cons (mk_exK (zs := [th]) (fun _ _ q => ⟨_, rfl, q⟩) rfl rfl) mks_nil))) (by show 3 ≤ 1000; decide) (fun q4 H9 t9 r4 => ?_)
    refine st_asg ?_
    refine rd_cat (fun Q1 k1 => rd_var rfl r4 Q1 k1) (fun H1 Q1 _ k1 => rd_lst (mks_cons (mk_exK (zs := [th, .int nu]) (fun _ _ q => ⟨_, rfl, _, rfl, q⟩) rfl rfl) (mks_cons (mk_exK (zs := [th]) (fun _ _ q => ⟨_, rfl, q⟩) rfl rfl) (mks_cons (mk_exK (zs := [th]) (fun _ _ q => ⟨_, rfl, q⟩) rfl rfl) mks_nil))) (by show 3 ≤ 1000; decide) k1) (by show 3 + 3 ≤ 1000; decide) (fun q5 Ha ta r5 => ?_)
    refine st_asg ?_
    refine rd_cat (fun Q1 k1 => rd_cat (fun Q2 k2 => rd_var rfl r5 Q2 k2) (fun H2 Q2 _ k2 => rd_lst (mks_cons (mk_exK (zs := [th]) (fun _ _ q => ⟨_, rfl, q⟩) rfl rfl) (mks_cons (mk_exK (zs := [th]) (fun _ _ q => ⟨_, rfl, q⟩) rfl rfl) mks_nil)) (by show 2 ≤ 1000; decide) k2) (by show 6 + 2 ≤ 1000; decide) k1) (fun H1 Q1 sH k1 => rd_drop rfl (((rs.same t9).same ta).same sH) rfl k1) (by show 8 + 9 ≤ 1000; decide) (fun pn Hb tb rn => ?_)
    replace rn : RowAt Hb pn (specs c th nu) := rn
    replace rs : RowAt Hb ps (specs c th nu) := ((rs.same t9).same ta).same tb
    have sb : Same H3 Hb := (((((s5.trans t6).trans t7).trans t8).trans t9).trans ta).trans tb
    have hdb : DpG K Hb th dt := (((((hdt.same t6).same t7).same t8).same t9).same ta).same tb
    -- for _law_row in [_law_some, _law_named]
    refine ⟨_, rfl, _, rfl, by show 2 ≤ sizeLine; decide, fun pr hpr => ⟨pr, rfl, ⟨_, SqL.of upd_same⟩, ?_⟩⟩
    have sc : Same Hb (upd Hb pr (.lst [.ref ps, .ref pn])) := same_new hpr
    have hc : (upd Hb pr (.lst [.ref ps, .ref pn])) pr = some (.lst [.ref ps, .ref pn]) := upd_same
    generalize upd Hb pr (.lst [.ref ps, .ref pn]) = Hc at sc hc ⊢
    refine for_list (K := K) (a := pr) (xs := [.ref ps, .ref pn]) (fun j σ H' => (∃ v6 v7 v8 v9 v10 : Option V, σ = [some (.ref a), some (.int z), some (.int nu), some th, some (.ref ps), some (.ref pn), v6, v7, v8, v9, v10]) ∧ Same Hc H')
      ⟨⟨_, _, _, _, _, rfl⟩, Same.refl _⟩ (fun j σ H' _ ⟨_, s⟩ => s.seq (SqL.of hc)) ?_ ?_
    case refine_2 =>
      rintro σ H' ⟨⟨v6, v7, v8, v9, v10, rfl⟩, s⟩
      exact ⟨⟨_, _, _, _, _, _, _, _, _, _, rfl⟩, (sb.trans sc).trans s⟩
    rintro j x σ Hd hj ⟨⟨v6, v7, v8, v9, v10, rfl⟩, sd⟩
    obtain ⟨pq, rfl, rq⟩ : ∃ pq, x = V.ref pq ∧ RowAt Hd pq (specs c th nu) := by
      match j, hj with
      | 0, hj => exact ⟨ps, (Option.some.inj hj).symm, (rs.same sc).same sd⟩
      | 1, hj => exact ⟨pn, (Option.some.inj hj).symm, (rn.same sc).same sd⟩
    have hdd : DpG K Hd th dt := (hdb.same sc).same sd
    -- for _law_k, _law_err in enumerate(_law_row)
    obtain ⟨as, ha1, ha2⟩ := id rq
    have hal : as.length = 17 := pr_len ha2
    refine ⟨_, rfl, pq, as.map V.ref, rfl, SqL.of ha1, ?_⟩
    refine for_it (walk_enum (K := K) (a := pq) (xs := as.map V.ref)) (fun m σ H' => (∃ v7 v8 v9 v10 : Option V, σ = [some (.ref a), some (.int z), some (.int nu), some th, some (.ref ps), some (.ref pn), some (.ref pq), v7, v8, v9, v10]) ∧ Same Hd H')
      ⟨⟨_, _, _, _, rfl⟩, Same.refl _⟩ (fun m σ H' _ ⟨_, s⟩ => s.seq (SqL.of ha1)) ?_ ?_
    · rintro m x σ He Hf hm ⟨⟨v7, v8, v9, v10, rfl⟩, se⟩ ⟨tp, x1, x2, rfl, hn, rfl, e1, e2⟩
      rw [List.length_map, hal] at hm
      obtain ⟨fo, hfo⟩ := specs_at (c := c) (th := th) (nu := nu) hm
      obtain ⟨am, eam, her⟩ := pr_get ha2 hfo
      replace e2 : (as.map V.ref)[m]? = some x2 := e2
      rw [List.getElem?_map, eam] at e2
      cases e2
      cases e1
      have sf : Same Hd (upd He tp (.tup [.int (m : Nat), .ref am])) := se.trans (same_new hn)
      have htp : (upd He tp (.tup [.int (m : Nat), .ref am])) tp = some (.tup [.int (m : Nat), .ref am]) := upd_same
      generalize upd He tp (.tup [.int (m : Nat), .ref am]) = Hf at sf htp ⊢
      refine ⟨tp, _, rfl, SqT.of htp, rfl, _, _, rfl, _, _, rfl, rfl, ?_⟩
      have herf : ErAt Hf am (c m) fo := her.same sf
      obtain ⟨d, x0, y0⟩ := herf.ex
      have X1 := (T.er m hm).is
      refine st_if ?_
      refine ⟨_, rfl, am, c m, d, _, _, true, rfl, .own _, x0, y0, X1, T.kL m hm, true, rfl, ?_⟩
      refine iteF ?_
      refine ⟨_, rfl, am, c m, d, _, _, true, rfl, .ty _, x0, y0, X1, T.kV m hm, true, rfl, ?_⟩
      refine iteF ?_
      refine ⟨_, rfl, am, m, fo, rfl, hm, herf, fun pk Hg sg hk => ?_⟩
      refine ⟨17, rfl, by decide, by decide, fun pc hpc => ?_⟩
      refine lc_range (lo := 0) (n := 17) (fun j H' => H' pc = some (.lst ((List.range j).map fun t => V.bl (decide (t = m)))) ∧ Same Hg H') ⟨upd_same, same_new hpc⟩ ?_ ?_
      · rintro j H' hj17 ⟨e, s⟩
        refine ⟨rfl, _, rfl, _, rfl, rfl, _, e, ?_, ?_, ?_⟩
        · rw [List.length_map, List.length_range]
          exact Nat.lt_of_lt_of_le hj17 (by decide)
        · rw [upd_same, List.range_succ, List.map_append, dec_int]
          rfl
        · intro b o hb
          rw [upd_ne (ne_of_none hb hpc)]
          exact s b o hb
      · rintro H' ⟨e, s⟩
        refine ne_same (s pk _ hk) e (dpg_bls _ _) (dpg_bls _ _) ?_
        exact ⟨false, rfl, iteF ⟨⟨_, _, _, _, rfl⟩, (sf.trans sg).trans s⟩⟩
    rintro σ He ⟨⟨v7, v8, v9, v10, rfl⟩, se⟩
    have rqe : RowAt He pq (specs c th nu) := rq.same se
    have hde : DpG K He th dt := hdd.same se
    -- _law_kept
    dsimp only
    refine st_asg ?_
    refine rd_lstV (xs := [th, .int nu, .str "held", th, th, .int nu, th]) (fun Q1 q1 => ?_) (by show 7 ≤ 1000; decide) (fun pk Hf sf hk => ?_)
    · refine rd_fld (n := 0) rfl rqe rfl (T.er 0 (by decide)).is (B.nf 0 _ (by simp)) rfl ?_
      refine rd_fld (n := 0) rfl rqe rfl (T.er 0 (by decide)).is (B.nf 0 _ (by simp)) rfl ?_
      refine rd_fld (n := 0) rfl rqe rfl (T.er 0 (by decide)).is (B.nf 0 _ (by simp)) rfl ?_
      refine rd_fld (n := 1) rfl rqe rfl (T.er 1 (by decide)).is (B.nf 1 _ (by simp)) rfl ?_
      refine rd_fld (n := 2) rfl rqe rfl (T.er 2 (by decide)).is (B.nf 2 _ (by simp)) rfl ?_
      refine rd_fld (n := 3) rfl rqe rfl (T.er 3 (by decide)).is (B.nf 3 _ (by simp)) rfl ?_
      refine rd_fld (n := 3) rfl rqe rfl (T.er 3 (by decide)).is (B.nf 3 _ (by simp)) rfl ?_
      exact q1
    refine st_if ?_
    refine ⟨_, rfl, ?_⟩
    refine rd_lstV (xs := [th, .int nu, .str "held", th, th, .int nu, th]) (fun Q1 q1 => ⟨_, rfl, _, rfl, _, rfl, _, rfl, _, rfl, _, rfl, q1⟩) (by show 7 ≤ 1000; decide) (fun pl Hg sg hl => ?_)
    have hdg : DpG K Hg th dt := (hde.same sf).same sg
    have hh : DpG K Hg (.str "held") (.str "held") := dpg_str _ (by decide +kernel)
    have pd7 : Paired (DpG K Hg) [th, .int nu, .str "held", th, th, .int nu, th] [dt, .int nu, .str "held", dt, dt, .int nu, dt] := .cons hdg (.cons (dpg_int _) (.cons hh (.cons hdg (.cons hdg (.cons (dpg_int _) (.cons hdg .nil))))))
    refine ne_same (sg pk _ hk) hl pd7 pd7 ⟨false, rfl, iteF ?_⟩
    have rqg : RowAt Hg pq (specs c th nu) := (rqe.same sf).same sg
    refine st_nx ?_
    dsimp only
    refine st_ifl ?_
    refine rd_ne ?_
    refine rd_lstV (xs := [th, th, th, th]) (fun Q1 q1 => ?_) (by show 4 ≤ 1000; decide) (fun pm Hh sh hm => ?_)
    · refine rd_fld (n := 4) rfl rqg rfl (T.er 4 (by decide)).is (B.nf 4 _ (by simp)) rfl ?_
      refine rd_fld (n := 5) rfl rqg rfl (T.er 5 (by decide)).is (B.nf 5 _ (by simp)) rfl ?_
      refine rd_fld (n := 6) rfl rqg rfl (T.er 6 (by decide)).is (B.nf 6 _ (by simp)) rfl ?_
      refine rd_fld (n := 7) rfl rqg rfl (T.er 7 (by decide)).is (B.nf 7 _ (by simp)) rfl ?_
      exact q1
    refine rd_lstV (xs := [th]) (fun Q1 q1 => ⟨_, rfl, q1⟩) (by show 1 ≤ 1000; decide) (fun po Hi si ho => ?_)
    refine ⟨po, 4, [th], rfl, rfl, ho, by decide, by decide, by show 1 * 4 ≤ sizeLine; decide, fun pp hpp => ?_⟩
    have sj : Same Hi (upd Hi pp (.lst (List.replicate (4 : Int).toNat [th]).flatten)) := same_new hpp
    have hdj : DpG K (upd Hi pp (.lst (List.replicate (4 : Int).toNat [th]).flatten)) th dt := ((hdg.same sh).same si).same sj
    refine ne_same (sj _ _ (si pm _ hm)) upd_same (.cons hdj (.cons hdj (.cons hdj (.cons hdj .nil)))) (.cons hdj (.cons hdj (.cons hdj (.cons hdj .nil)))) ⟨false, rfl, iteF ?_⟩
    exact ⟨⟨_, _, _, _, _, rfl⟩, (((((sd.trans se).trans sf).trans sg).trans sh).trans si).trans sj⟩
end
end K3

namespace Hd
open PySem L2 He
abbrev AlE : Type := Bool × List FnW
def obsE (fn : List DefD) (ex : PySem.W.Frag → Bool) (K : PySem.W.Frag) : AlE := (ex K && fn.all fun d => d.ok K, fn.map fun d => fnW K d.at_)
def obsEG (n : Nat) (fn : List DefD) (ex : PySem.W.Frag → Bool) (g : Addr → Option Obj) : AlE := obsE fn ex (frG g (asD g n))
structure SaysE (fn : List DefD) (ex : PySem.W.Frag → Bool) (K : PySem.W.Frag) : Prop where
  more : ex K = true
  defs : ∀ d, d ∈ fn → ∃ fd, FunD K d.name d.qual d.params d.body d.scope (d.dvs K) (d.kws K) (fAd K d.at_) fd
theorem saysE_of {fn : List DefD} {ex : PySem.W.Frag → Bool} {K : PySem.W.Frag} (e : obsE fn ex K = (true, fn.map DefD.val)) : SaysE fn ex K := by
  obtain ⟨h1, h2⟩ := ba (congrArg (fun z : AlE => z.1) e)
  have e2 : fn.map (fun d => fnW K d.at_) = fn.map DefD.val := congrArg (fun z : AlE => z.2) e
  refine ⟨h1, fun d hd => DefD.funD ?_ (List.all_eq_true.mp h2 d hd)⟩
  obtain ⟨i, hi, ei⟩ := List.mem_iff_getElem.mp hd
  have q : fn[i]? = some d := by rw [List.getElem?_eq_getElem hi, ei]
  have e3 : (fn.map fun d => fnW K d.at_)[i]? = (fn.map DefD.val)[i]? := by rw [e2]
  rw [List.getElem?_map, List.getElem?_map, q] at e3
  exact Option.some.inj e3
def hookE (n : Nat) (fn : List DefD) (ex : PySem.W.Frag → Bool) : PySem.W.Hook where
  α := AlE
  obs := fun s => obsEG n fn ex s.heap.get?
  val := fun _ => (true, fn.map DefD.val)
  says := fun _ h => ∃ K : PySem.W.Frag, K.In h ∧ SaysE fn ex K
  of := fun _ _ e => ⟨_, frG_in, saysE_of e⟩
  keeps := fun _ _ _ ⟨K, hK, c⟩ k => ⟨K, PySem.W.Frag.In.keeps hK k, c⟩
theorem obsEG_eq {n : Nat} {fn : List DefD} {ex : PySem.W.Frag → Bool} {g : Addr → Option Obj} {s : Shared} (h : ∀ a, g a = s.heap.get? a) : obsEG n fn ex g = (hookE n fn ex).obs s := by
  have e : g = s.heap.get? := funext h
  rw [e] <;> rfl
/-- a def of the text as a datum -/
def dd (at_ : Str × Option Str) (x qual : Str) (st : Stmt) : DefD := ⟨at_, x, qual, defArgs st, defBody st, defScope st, [], []⟩
theorem fun_of {K : PySem.W.Frag} {x qual : Str} {st : Stmt} {f : Addr} {fd : FuncData} (F : FunD K x qual (defArgs st) (defBody st) (defScope st) [] [] f fd) : Fun K x qual st f fd := by
  obtain ⟨oc, od, dV, kV, doc, pm, an, cdv, ct, osl, e, lk, hcd, hD, _⟩ := F.ex
  rcases hD with ⟨_, z⟩ | ⟨z, _⟩
  · subst z
    exact ⟨⟨oc, od, kV, doc, pm, an, cdv, ct, osl, e, lk, hcd⟩, F.kp⟩
  · exact absurd rfl z
/-! ### facts of an error's class, by a look -/
def oexB (K : PySem.W.Frag) (C : Addr) : Bool := match K.lookup C with
  | some ⟨.type "type", _, .cls cd, sl⟩ => (match cd.mro, sl.toList with
    | .ref C' :: bm, [_, _, _, _, some (.builtin n), _] => C' == C && (n == "ValueError.__new__" && (!cd.hasDel && (cd.hasDict && PySem.HandSPX.refsVE bm)))
    | _, _ => false)
  | _ => false
theorem oexB_ok {K : PySem.W.Frag} {C : Addr} (q : oexB K C = true) : ∃ nm q N bs bm sn sub ab col dd k0 k1 k2 k3 k5, K.lookup C = some (excClassObj nm q C N bs bm true sn sub ab col dd k0 k1 k2 k3 k5 "ValueError.__new__") ∧ PySem.HandSPX.refsVE bm = true := by
  unfold oexB at q
  split at q
  · rename_i dd cd sl ho
    split at q
    · rename_i C' bm k0 k1 k2 k3 n k5 hm hs
      obtain ⟨q1, q⟩ := ba q
      obtain ⟨q2, q⟩ := ba q
      obtain ⟨q3, q⟩ := ba q
      obtain ⟨q4, q5⟩ := ba q
      have e1 : C' = C := eq_of_beq q1
      have e2 : n = "ValueError.__new__" := eq_of_beq q2
      obtain ⟨nm, bs, mro, ns, qn, hd, sn, sub, ab, col, del⟩ := cd
      dsimp only at hm q3 q4
      subst hm e1 e2
      have e3 : del = false := by
        cases del with
        | false => rfl
        | true => cases q3
      subst e3 q4
      have hsl : sl = #[k0, k1, k2, k3, some (.builtin "ValueError.__new__"), k5] := by
        obtain ⟨l⟩ := sl
        simp only at hs
        rw [hs]
      subst hsl
      exact ⟨nm, qn, ns, bs, bm, sn, sub, ab, col, dd, k0, k1, k2, k3, k5, ho, q5⟩
    · cases q
  · cases q
def eqV (a b : Option Value) : Bool := decide (a = b)
def eqB (a b : Option Bool) : Bool := decide (a = b)
def oexAll (K : PySem.W.Frag) (C : Addr) : Bool := oexB K C && (eqO (PySem.W.findIn K (.ref C) "__setattr__") (some (some (.builtin "object.__setattr__"))) && (eqB (PySem.W.subIn K (.ref C) (.type "BaseException")) (some true) &&
  (eqV (PySem.W.typeIn K (.ref C)) (some (.type "type")) && PySem.W.keepIn K (.ref C))))
theorem oexAll_ok {K : PySem.W.Frag} {C : Addr} (q : oexAll K C = true) : OexC K C := by
  obtain ⟨q1, q⟩ := ba q
  obtain ⟨q2, q⟩ := ba q
  obtain ⟨q3, q⟩ := ba q
  obtain ⟨q4, q5⟩ := ba q
  exact ⟨oexB_ok q1, eqO_ok q2, of_decide_eq_true q3, of_decide_eq_true q4, q5⟩
def exIsB (K : PySem.W.Frag) (C : Addr) : Bool := eqO (PySem.W.findIn K (.ref C) "__getattribute__") (some (some (.builtin "BaseException.__getattribute__"))) && (eqO (PySem.W.findIn K (.ref C) "__getattr__") (some none) &&
  (eqB (PySem.W.subIn K (.ref C) (.type "BaseException")) (some true) && (PySem.W.hasDictIn K C && (eqO (PySem.W.findIn K (.ref C) "__class__") (some (some (.builtin "object.__class__"))) &&
  (eqO (PySem.W.specialIn K (.builtin "object.__class__") "__get__") (some (some (.builtin "getset_descriptor.__get__"))) && (eqB (PySem.W.takesIn K (.builtin "object.__class__")) (some true) && eqB (PySem.W.mroIn K C (.type "object")) (some true)))))))
theorem exIsB_ok {K : PySem.W.Frag} {C : Addr} (q : exIsB K C = true) : ExIs K C := by
  obtain ⟨q1, q⟩ := ba q
  obtain ⟨q2, q⟩ := ba q
  obtain ⟨q3, q⟩ := ba q
  obtain ⟨q4, q⟩ := ba q
  obtain ⟨q5, q⟩ := ba q
  obtain ⟨q6, q⟩ := ba q
  obtain ⟨q7, q8⟩ := ba q
  exact ⟨eqO_ok q1, eqO_ok q2, of_decide_eq_true q3, q4, eqO_ok q5, eqO_ok q6, of_decide_eq_true q7, of_decide_eq_true q8⟩
end Hd

namespace K3
open PySem L2 He Hd
def nms : List Str := ["BadLog", "BadFirst", "BadEvent", "BadRun", "BadState", "BadThread", "BadCount", "BadText", "BadPair", "BadOrder", "BadCut", "BadKept", "BadTimes", "Impossible", "NotPlain", "TooLarge", "TooMany"]
def nm (i : Nat) : Str := nms.getD i "law"
def nfs : List (Nat × Str) := [(0, "thread"), (0, "at"), (0, "why"), (1, "name"), (2, "e"), (3, "index"), (3, "why"), (4, "state"), (5, "thread"), (6, "count"), (7, "line")]
abbrev cA (K : PySem.W.Frag) (i : Nat) : Addr := ga K (nm i)
abbrev fA (K : PySem.W.Frag) (i : Nat) : Addr := ma K (cA K i) "__init__"
/-- what is looked at behind the top -/
def ex (K : PySem.W.Frag) : Bool := ((List.range 17).all fun i => (Fa.glo (nm i)).ok K && (PySem.W.keepIn K (.ref (cA K i)) && exIsB K (cA K i))) &&
  (((List.range 17).all fun i => (List.range 17).all fun j => eqB (PySem.W.kitOne K (.ref (cA K i)) (.ref (cA K j))) (some (decide (j = i)))) &&
  (((List.range 17).all fun i => eqB (PySem.W.kitOne K (.ref (cA K i)) (.ref (ga K "LogError"))) (some true) && eqB (PySem.W.kitOne K (.ref (cA K i)) (.type "ValueError")) (some true)) &&
  (((List.range 8).all fun i => oexAll K (cA K i) && (eqO (PySem.W.findIn K (.ref (cA K i)) "__init__") (some (some (.ref (fA K i)))) && eqV (PySem.W.typeIn K (.ref (fA K i))) (some (.type "function")))) &&
  (((List.range 17).all fun i => decide (i < 8) || PySem.W.excIn K (cA K i) veBase "ValueError.__new__") &&
  ((nfs.all fun q => eqO (PySem.W.findIn K (.ref (cA K q.1)) q.2) (some none)) &&
  (([.glo "LogError", .glo "_law_kinds", .glo "law", .free "isinstance", .free "int", .free "ValueError", .free "range", .free "enumerate"] : List Fa).all fun f => f.ok K))))))
def d0 : DefD := dd ("BadLog", some "__init__") "__init__" "BadLog.__init__" sI0
def d1 : DefD := dd ("BadFirst", some "__init__") "__init__" "BadFirst.__init__" sI1
def d2 : DefD := dd ("BadEvent", some "__init__") "__init__" "BadEvent.__init__" sI2
def d3 : DefD := dd ("BadRun", some "__init__") "__init__" "BadRun.__init__" sI3
def d4 : DefD := dd ("BadState", some "__init__") "__init__" "BadState.__init__" sI4
def d5 : DefD := dd ("BadThread", some "__init__") "__init__" "BadThread.__init__" sI5
def d6 : DefD := dd ("BadCount", some "__init__") "__init__" "BadCount.__init__" sI6
def d7 : DefD := dd ("BadText", some "__init__") "__init__" "BadText.__init__" sI7
def dK : DefD := dd ("_law_kinds", none) "_law_kinds" "_law_kinds" sKinds
def dL : DefD := dd ("law", none) "law" "law" sLaw
def fns : List DefD := [d0, d1, d2, d3, d4, d5, d6, d7, dK, dL]
theorem vals_rev : ∀ {zs : List V} {ws : List Value}, Vals zs ws → Vals zs.reverse ws.reverse
  | _, _, .nil => .nil
  | _, _, .cons r t => by
    rw [List.reverse_cons, List.reverse_cons]
    exact (vals_rev t).append (.cons r .nil)
theorem kbn_of {K : PySem.W.Frag} {x qual : Str} {st : Stmt} {f : Addr} {fd : FuncData} {ps ks : List Str} {n : Nat} (F : Fun K x qual st f fd)
    (h : ∀ (kV doc pm : Value) (an : Option Addr) (cdv ct : Value) (us ws : List Value), us.length = n → ws.length = ks.length → bindArgs (PySem.W.fnOf x qual (defArgs st) (defBody st) (defScope st) .none kV doc pm an cdv ct) ⟨us, ks.zip ws⟩ = pure (ps.zip (gR us ws))) :
    KBn K fd ps n ks gR gR := by
  obtain ⟨oc, od, kV, doc, pm, an, cdv, ct, osl, rfl, lk, hcd⟩ := F.ex
  exact ⟨fun s us ws _ l1 l2 => .of_eq (h kV doc pm an cdv ct us ws l1 l2), fun r1 r2 => r1.append (vals_rev r2)⟩
theorem mem_rg {n i : Nat} (h : i < n) : i ∈ List.range n := List.mem_range.mpr h
abbrev R : PySem.W.OpenRow := PySem.W.OpenLaw.row PySem.Challenge.rw_onerun_k03_errors_apart
abbrev hk : PySem.W.Hook := hookE 6 fns ex
def ob (s : PySem.W.SharedT) : AlE := obsEG 6 fns ex (HandSHeadRun.getT s)
theorem ob_eq (s : PySem.W.SharedT) : ob s = hk.obs s.abs := obsEG_eq (HandSHeadRun.getT_eq s)
def loose : List Str := ["LogError", "_law_kinds", "BadLog", "BadFirst", "BadEvent", "BadRun", "BadState", "BadThread", "BadCount", "BadText", "BadPair", "BadOrder", "BadCut", "BadKept", "BadTimes", "Impossible", "NotPlain", "TooLarge", "TooMany"]

theorem facts {P : Program} {w : World} {K : PySem.W.Frag} {h : Heap} {mg : Str → Option Value} {f : Addr} (X : K.In h) (G : h.Ns mainGlobals mg) (hfa : mg ("law" : Str) = some (.ref f)) (c : SaysE fns ex K) :
    ∃ fd : FuncData, (∀ (s : Shared) (v : Value), BindsTo s fd ⟨[v], []⟩ [("_law_script", v)]) ∧ ∀ base : Heap, K.In base → base.Ns mainGlobals mg → FnOk P w K mg base CX0 3 f fd ["_law_script"] (spLaw K) := by
  obtain ⟨c1, q⟩ := ba c.more
  obtain ⟨c2, q⟩ := ba q
  obtain ⟨c3, q⟩ := ba q
  obtain ⟨c4, q⟩ := ba q
  obtain ⟨c5, q⟩ := ba q
  obtain ⟨c6, c7⟩ := ba q
  have fa : ∀ a, a ∈ ([.glo "LogError", .glo "_law_kinds", .glo "law", .free "isinstance", .free "int", .free "ValueError", .free "range", .free "enumerate"] : List Fa) → a.ok K = true := List.all_eq_true.mp c7
  have cl : ∀ i, i < 17 → mg (nm i) = some (.ref (cA K i)) ∧ Err K (cA K i) := fun i hi => by
    obtain ⟨e1, e⟩ := ba (List.all_eq_true.mp c1 i (mem_rg hi))
    obtain ⟨e2, e3⟩ := ba e
    exact ⟨glo_ok X G e1, e2, exIsB_ok e3⟩
  have T : Txt K mg (cA K) (ga K "LogError") := {
    g0 := (cl 0 (by decide)).1
    g1 := (cl 1 (by decide)).1
    g2 := (cl 2 (by decide)).1
    g3 := (cl 3 (by decide)).1
    g4 := (cl 4 (by decide)).1
    g5 := (cl 5 (by decide)).1
    g6 := (cl 6 (by decide)).1
    g7 := (cl 7 (by decide)).1
    g8 := (cl 8 (by decide)).1
    g9 := (cl 9 (by decide)).1
    g10 := (cl 10 (by decide)).1
    g11 := (cl 11 (by decide)).1
    g12 := (cl 12 (by decide)).1
    g13 := (cl 13 (by decide)).1
    g14 := (cl 14 (by decide)).1
    g15 := (cl 15 (by decide)).1
    g16 := (cl 16 (by decide)).1
    gL := glo_ok X G (fa _ (by simp))
    er := fun i hi => (cl i hi).2
    kk := fun i j hi hj => of_decide_eq_true (List.all_eq_true.mp (List.all_eq_true.mp c2 i (mem_rg hi)) j (mem_rg hj))
    kL := fun i hi => of_decide_eq_true (ba (List.all_eq_true.mp c3 i (mem_rg hi))).1
    kV := fun i hi => of_decide_eq_true (ba (List.all_eq_true.mp c3 i (mem_rg hi))).2
    isi := free_ok X G (fa _ (by simp)) }
  obtain ⟨fd0, F0'⟩ := c.defs d0 (by simp [fns])
  have F0 : Fun K "__init__" "BadLog.__init__" sI0 (fA K 0) fd0 := fun_of F0'
  obtain ⟨fd1, F1'⟩ := c.defs d1 (by simp [fns])
  have F1 : Fun K "__init__" "BadFirst.__init__" sI1 (fA K 1) fd1 := fun_of F1'
  obtain ⟨fd2, F2'⟩ := c.defs d2 (by simp [fns])
  have F2 : Fun K "__init__" "BadEvent.__init__" sI2 (fA K 2) fd2 := fun_of F2'
  obtain ⟨fd3, F3'⟩ := c.defs d3 (by simp [fns])
  have F3 : Fun K "__init__" "BadRun.__init__" sI3 (fA K 3) fd3 := fun_of F3'
  obtain ⟨fd4, F4'⟩ := c.defs d4 (by simp [fns])
  have F4 : Fun K "__init__" "BadState.__init__" sI4 (fA K 4) fd4 := fun_of F4'
  obtain ⟨fd5, F5'⟩ := c.defs d5 (by simp [fns])
  have F5 : Fun K "__init__" "BadThread.__init__" sI5 (fA K 5) fd5 := fun_of F5'
  obtain ⟨fd6, F6'⟩ := c.defs d6 (by simp [fns])
  have F6 : Fun K "__init__" "BadCount.__init__" sI6 (fA K 6) fd6 := fun_of F6'
  obtain ⟨fd7, F7'⟩ := c.defs d7 (by simp [fns])
  have F7 : Fun K "__init__" "BadText.__init__" sI7 (fA K 7) fd7 := fun_of F7'
  obtain ⟨fdK, FK'⟩ := c.defs dK (by simp [fns])
  have FK : Fun K "_law_kinds" "_law_kinds" sKinds (ga K "_law_kinds") fdK := fun_of FK'
  obtain ⟨fdL, FL'⟩ := c.defs dL (by simp [fns])
  have FL : Fun K "law" "law" sLaw (ga K "law") fdL := fun_of FL'
  have e := hfa.symm.trans (glo_ok X G (fa (.glo "law") (by simp)))
  cases e
  have c4' : ∀ i, i < 8 → OexC K (cA K i) ∧ PySem.W.findIn K (.ref (cA K i)) "__init__" = some (some (.ref (fA K i))) ∧ PySem.W.typeIn K (.ref (fA K i)) = some (.type "function") := fun i hi => by
    obtain ⟨e1, e⟩ := ba (List.all_eq_true.mp c4 i (mem_rg hi))
    obtain ⟨e2, e3⟩ := ba e
    exact ⟨oexAll_ok e1, eqO_ok e2, of_decide_eq_true e3⟩
  have nf : ∀ i f, (i, f) ∈ nfs → PySem.W.findIn K (.ref (cA K i)) f = some none := fun i f hm => eqO_ok (List.all_eq_true.mp c6 (i, f) hm)
  refine ⟨fdL, fun s v => FL'.bindsA (ps := ["_law_script"]) (fun _ _ _ _ _ _ us hl => match us, hl with | [_], _ => rfl) s [v] rfl, fun base _ _ => ?_⟩
  refine ok_law (fI := fA K) (fdI := fun i => [fd0, fd1, fd2, fd3, fd4, fd5, fd6, fd7].getD i fd0) (fK := ga K "_law_kinds") (fdK := fdK) FL T ?_
  exact {
    O := fun i hi => (c4' i hi).1
    iC := fun i hi => (c4' i hi).2.1
    tI := fun i hi => (c4' i hi).2.2
    q := fun i h8 hi => by
      have z := List.all_eq_true.mp c5 i (mem_rg hi)
      rw [decide_eq_false (by omega), Bool.false_or] at z
      exact z
    G0 := ok_i0 F0 (c4' 0 (by decide)).1 (fun x hx => nf 0 x (by simp at hx; rcases hx with rfl | rfl | rfl <;> simp [nfs]))
    bp0 := kbn_of F0 fun _ _ _ _ _ _ us ws h1 h2 => match us, ws, h1, h2 with | [_, _, _, _], [], _, _ => rfl
    bk0 := kbn_of F0 fun _ _ _ _ _ _ us ws h1 h2 => match us, ws, h1, h2 with | [_], [_, _, _], _, _ => rfl
    G1 := ok_i1 F1 (c4' 1 (by decide)).1 (fun x hx => nf 1 x (by simp at hx; simp [nfs, hx]))
    bp1 := kbn_of F1 fun _ _ _ _ _ _ us ws h1 h2 => match us, ws, h1, h2 with | [_, _], [], _, _ => rfl
    bk1 := kbn_of F1 fun _ _ _ _ _ _ us ws h1 h2 => match us, ws, h1, h2 with | [_], [_], _, _ => rfl
    G2 := ok_i2 F2 (c4' 2 (by decide)).1 (fun x hx => nf 2 x (by simp at hx; simp [nfs, hx]))
    bp2 := kbn_of F2 fun _ _ _ _ _ _ us ws h1 h2 => match us, ws, h1, h2 with | [_, _], [], _, _ => rfl
    bk2 := kbn_of F2 fun _ _ _ _ _ _ us ws h1 h2 => match us, ws, h1, h2 with | [_], [_], _, _ => rfl
    G3 := ok_i3 F3 (c4' 3 (by decide)).1 (fun x hx => nf 3 x (by simp at hx; rcases hx with rfl | rfl <;> simp [nfs]))
    bp3 := kbn_of F3 fun _ _ _ _ _ _ us ws h1 h2 => match us, ws, h1, h2 with | [_, _, _], [], _, _ => rfl
    bk3 := kbn_of F3 fun _ _ _ _ _ _ us ws h1 h2 => match us, ws, h1, h2 with | [_], [_, _], _, _ => rfl
    G4 := ok_i4 F4 (c4' 4 (by decide)).1 (fun x hx => nf 4 x (by simp at hx; simp [nfs, hx]))
    bp4 := kbn_of F4 fun _ _ _ _ _ _ us ws h1 h2 => match us, ws, h1, h2 with | [_, _], [], _, _ => rfl
    bk4 := kbn_of F4 fun _ _ _ _ _ _ us ws h1 h2 => match us, ws, h1, h2 with | [_], [_], _, _ => rfl
    G5 := ok_i5 F5 (c4' 5 (by decide)).1 (fun x hx => nf 5 x (by simp at hx; simp [nfs, hx]))
    bp5 := kbn_of F5 fun _ _ _ _ _ _ us ws h1 h2 => match us, ws, h1, h2 with | [_, _], [], _, _ => rfl
    bk5 := kbn_of F5 fun _ _ _ _ _ _ us ws h1 h2 => match us, ws, h1, h2 with | [_], [_], _, _ => rfl
    G6 := ok_i6 F6 (c4' 6 (by decide)).1 (fun x hx => nf 6 x (by simp at hx; simp [nfs, hx]))
    bp6 := kbn_of F6 fun _ _ _ _ _ _ us ws h1 h2 => match us, ws, h1, h2 with | [_, _], [], _, _ => rfl
    bk6 := kbn_of F6 fun _ _ _ _ _ _ us ws h1 h2 => match us, ws, h1, h2 with | [_], [_], _, _ => rfl
    G7 := ok_i7 F7 (c4' 7 (by decide)).1 (fun x hx => nf 7 x (by simp at hx; simp [nfs, hx]))
    bp7 := kbn_of F7 fun _ _ _ _ _ _ us ws h1 h2 => match us, ws, h1, h2 with | [_, _], [], _, _ => rfl
    bk7 := kbn_of F7 fun _ _ _ _ _ _ us ws h1 h2 => match us, ws, h1, h2 with | [_], [_], _, _ => rfl
    GK := ok_kinds FK T
    gK := glo_ok X G (fa _ (by simp))
    kK := FK.kp
    bK := FK.binds fun _ _ _ _ _ _ us hl => match us, hl with | [_], _ => rfl
    nf := nf
    mInt := free_ok X G (fa _ (by simp))
    mVE := free_ok X G (fa _ (by simp))
    mRange := free_ok X G (fa _ (by simp))
    mEnum := free_ok X G (fa _ (by simp)) }
end K3

namespace K3
open PySem L2 He Hd
theorem run (w : World) : HandSHeadRun.RunEq R (PySem.W.view R.prog [21]) hk ob 9000 loose w := by
  intro os
  kernel_rfl
end K3
open PySem PySem.W PySem.Calls PyProof.Rows
theorem PySem.Challenge.cw_onerun_k03_errors_apart_holds : PySem.Challenge.rw_onerun_k03_errors_apart.Holds := by
  w_on; o_law
  refine HandSHeadRun.head_any (r := K3.R) (q := view K3.R.prog [21]) (H := K3.hk) (ob := K3.ob) (M := 9000) (loose := K3.loose) (d := HandSHeadRun.topDef K3.R.prog 21) (kwd := []) K3.ob_eq
    (by kernel_rfl) (fun s => by kernel_rfl) K3.run (by kernel_rfl) (by kernel_rfl) (by kernel_rfl) (by rfl) (by first | assumption | decide +kernel) (by decide +kernel) ⟨rfl, rfl, rfl, rfl, rfl, by decide +kernel⟩ ?hw ?hc
  case hw => w_witness2
  case hc =>
    refine L2.walk_ofE (l := PySem.Challenge.rw_onerun_k03_errors_apart) (n := 63) (k := 3) (x := "_law_script") (CX := L2.CX0) rfl (by decide) (by kernel_rfl) ⟨rfl, by decide, by decide⟩ ?F (fun _ _ _ _ z => z)
    intro w mg fa h Y G hmg0
    obtain ⟨K, KX, c⟩ := Y
    have hmg : mg ("law" : PySem.Str) = some (.ref fa) := by
      have e : (HandSHeadRun.topDef K3.R.prog 21).name = ("law" : PySem.Str) := by kernel_rfl
      rw [← e]
      exact hmg0
    obtain ⟨fd, hb, hF⟩ := K3.facts (P := (PySem.Challenge.rw_onerun_k03_errors_apart).prog) (w := w) KX G hmg c
    exact ⟨K, fd, K3.spLaw K, KX, hb, fun H a ns hl _ hS => ⟨a, ns, rfl, hS, hl, fun _ => rfl⟩, hF⟩
