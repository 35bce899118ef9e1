import PyProof.Rows.All
import Wide.All
import OpenK.AllK
import Wide.FinOn
import HandS.ForMost
import HandS.Exc
import HandS.SortKw
import HandS.Lambda
import HandS.Nested
import KE.KLam
import KE.SortKeyed
import KE.SortData
import HandS.Walk
import HandS.IsInst
import HandS.HeadHook1
import KE.GoesMore
import PyProof.EnumMake
import HandS.Conv
import KE.KDictSum
import HandS.OwnEq
import HandS.Words
import KE.RegKCallOwn
import PyProof.InstEq
import KE.KEqNest
import HandS.WordsDict
import HandS.DictComp
import HandS.SetKeys
import HandS.More
import HandS.HeadHook2
import HandS.ExcInit
import HandS.ExcOwn
import HandS.ExcField
import HandS.WordsExc
import HandS.Wide
import HandS.SetFor
import HandS.DictTup
import PyProof.SeqRoads2
import HandS.Set
import HandS.SetTxt0
import HandS.Strs
import HandS.List
import PyProof.Rows.SortShellAny
import HandS.ListItems
import HandS.Style
import HandS.Head0
import HandS.Head1
import HandS.Head2
import HandS.HeadEnd
import HandS.HeadHook4
import HandS.HeadWalk
import PySem.Challenge.RW_onerun_k01_logs_read
set_option Elab.async false
set_option linter.all false
set_option maxRecDepth 100000
set_option maxHeartbeats 0
namespace Srl
open PySem PySem.Spec PyProof.Rows L2 LamX
/-! ### lambda x: repr(x), called with a text -/
def lPar (x : Str) (ap : Pos) : Arguments := { posonlyargs := [], args := [{ arg := x, annotation := none, pos := ap }], vararg := none, kwonlyargs := [], kw_defaults := [], kwarg := none, defaults := [] }
def lSc (x : Str) : Scope := { kind := .function, names := [(x, .local), (PySem.Str.ofString "repr", .globalImplicit)], isGenerator := false, isCoroutine := false, more := [] }
def lBody (x : Str) (b1 b2 b3 : Pos) : Expr := .Call (.Name "repr" b1) [.Name x b2] [] b3
section
variable {prog : Program} {w : World} {A : Around} {E : Value → Shared → Prop} {s : Shared}
theorem repr_call {x y qual : Str} {ap b1 b2 b3 : Pos} {f c' : Addr} {pm ctv : Value} {t : Tok} {mg mb : Str → Option Value} {Q : Value → Shared → Prop} (hxr : ¬ x = "repr") (hxd : (x == ("__debug__" : Str)) = false)
    (hbd : ∀ (q : Str) (ap : Pos) (b : Expr) (pm cv ctv v : Value), bindArgs (PySem.W.kla_fn "<lambda>" q (lPar x ap) b (lSc x) [] pm cv ctv) ⟨[v], []⟩ = pure [(x, v)])
    (ho : s.heap.get? f = some (PySem.W.kla_obj "<lambda>" qual (lPar x ap) (lBody x b1 b2 b3) (lSc x) [] pm c' ctv)) (hcd : s.heap.CodeRec (.ref c') qual) (hlim : s.heap.NoLimit) (hg : s.heap.Ns mainGlobals mg) (hmr : mg "repr" = none)
    (hb : s.heap.Ns builtinsNs mb) (hbr : mb "repr" = some (.builtin "repr")) (hroom : A.depth < recursionLimit) (hsz : (reprText y).length ≤ sizeLine)
    (hq : ∀ h' tk t', (∀ b o, s.heap.get? b = some o → h'.get? b = some o) → Q (.str (reprText y) t') { s with heap := h', toks := tk }) :
    wpAny (model prog w) A (call (.ref f) [.str y t]) Q E s := by
  have hlx : (lSc x).names.lookup x = some .local := by simp [lSc, List.lookup]
  have hlr : (lSc x).names.lookup (PySem.Str.ofString "repr") = some .globalImplicit := by
    have e : (PySem.Str.ofString "repr" == x) = false := beq_eq_false_iff_ne.mpr (fun z => hxr z.symm)
    simp [lSc, List.lookup, e]
  refine wpAny_call (PySem.W.kla_callFunE hroom ho rfl rfl rfl rfl hcd ?_)
  rw [hbd]
  refine wpAny_pure (wpAny_newFunctionEnv ?_ ?_ (fun h1 hns hsb => ⟨?_, ?_⟩) rfl)
  · intro z hz
    simp [lSc] at hz
    rcases hz with rfl | rfl <;> simp
  · intro z hz
    simp at hz
    subst hz
    exact hlx
  · exact hlim.fresh _ hsb
  · have hk1 : ∀ b o, s.heap.get? b = some o → h1.get? b = some o := fun b o e => hsb.extBut b o (Nat.ne_of_lt (Heap.lt_size e)) (Heap.get?_push_of_some _ e)
    refine PySem.W.kla_codeExpr ?_
    show wpAny _ _ (eval (lBody x b1 b2 b3) (PySem.W.envX qual (lSc x) s.heap.objs.size f (.ref c') [])) _ _ _
    refine wpAny_Call_Name_kw (Calls.Name_function_global rfl hlr (Calls.loadGlobal_builtin (hg.keeps hk1) hmr (hb.keeps hk1) hbr ?_) (by decide))
    refine PyProof.Rows.callWith_builtin1 (e := .Name x b2) (rest := []) ?_ rfl rfl
    show wpAny _ _ (spliced ((false, eval (.Name x b2) (PySem.W.envX qual (lSc x) s.heap.objs.size f (.ref c') [])) :: backTo b3 (starEach [] _))) _ _ _
    refine Calls.spliced_cons (wpAny_Name (wpAny_loadName_local rfl hlx hns (v := .str y t) (by simp [List.lookup]) ?_) hxd)
    refine Calls.spliced_nil ?_
    refine PySem.P.repr_of_str ?_ hsz
    exact hq h1 _ _ hk1
end
theorem hbd_name : ∀ (q : Str) (ap : Pos) (b : Expr) (pm cv ctv v : Value), bindArgs (PySem.W.kla_fn "<lambda>" q (lPar "name" ap) b (lSc "name") [] pm cv ctv) ⟨[v], []⟩ = pure [(("name" : Str), v)] := fun _ _ _ _ _ _ _ => rfl
theorem hbd_key : ∀ (q : Str) (ap : Pos) (b : Expr) (pm cv ctv v : Value), bindArgs (PySem.W.kla_fn "<lambda>" q (lPar "key" ap) b (lSc "key") [] pm cv ctv) ⟨[v], []⟩ = pure [(("key" : Str), v)] := fun _ _ _ _ _ _ _ => rfl
/-! ### the texts in the order of what repr tells of them -/
def byRepr (ks : List Str) : List Str := ks.mergeSort (PySem.W.dataLe false fun x => PyData.str (reprText x))
def tSrl (T : List (Addr × Str)) (ta : TA) : TE := fun σ H Q => ta σ H fun vs H1 => ∃ (a : Addr) (kvs : List (Key × V)) (ks : List Str), vs = [.ref a] ∧ H1 a = some (.dK kvs) ∧ kvs.map (·.1) = ks.map Sum.inr ∧ ks.length ≤ 1000 ∧
  (∀ y ∈ ks, (reprText y).length ≤ sizeLine) ∧ Tabs T H1 ∧ ∀ (H2 : Hp) (p : Addr), ExtN H1 H2 → Tabs T H2 → H2 p = none → Q (.ref p) (upd H2 p (.lst ((byRepr ks).map V.str)))
section
variable {X : Cx} {pins : List (Addr × Obj)} {σ : L2.St} {H : Hp} {s : Shared}
theorem inv_laidF {h' : Heap} {a : Addr} {o : HO} {t' : Nat} (I : Inv X pins σ H s) (k : ∀ b u, b ≠ X.env.locals → s.heap.get? b = some u → h'.get? b = some u) (hns : ∀ m, s.heap.Ns X.env.locals m → h'.Ns X.env.locals m)
    (hp : s.heap.objs.size ≤ a) (new : ObjOk X.prog X.w (upd H a o) h' a o) : Inv X pins σ (upd H a o) { s with heap := h', toks := t' } := by
  have hn : H a = none := I.hok.fresh hp
  have neL : ∀ {b : Addr} {u : HO}, H b = some u → b ≠ X.env.locals := fun {b u} e z => by
    rw [z, I.free] at e
    cases e
  have nea : ∀ {b : Addr} {u : Obj}, s.heap.get? b = some u → b ≠ a := fun {b u} e => Nat.ne_of_lt (Nat.lt_of_lt_of_le (Heap.lt_size e) hp)
  refine I.step (g' := s.gens) (d' := s.drawn) (ch := []) (fun b hb => absurd hb (by simp)) (fun b u h1 _ _ e _ => k b u h1 e) (fun b u h1 _ _ e _ => ⟨u.slots, k b u h1 e⟩)
    (fun b u _ e n => by rw [upd_ne (nea e)]; exact n) (fun b u _ e => ?_) (fun b xs e => by rw [upd_ne (ne_of_none e hn)]; exact e) (fun b u v e => by rw [upd_ne (ne_of_none e hn)]; exact e)
    (fun b ps e => ⟨#[], by rw [upd_ne (ne_of_none e hn), e]; simp⟩) hns (fun b u e => ?_) I.bare
  · by_cases hb : b = X.env.locals
    · obtain ⟨m, hm, _⟩ := I.loc
      obtain ⟨o', _, _, ho', _⟩ := hns m hm
      exact ⟨o', by rw [hb]; exact ho'⟩
    · exact ⟨u, k b u hb e⟩
  · by_cases hb : b = a
    · subst hb
      rw [upd_same] at e
      cases e
      exact new
    · rw [upd_ne hb] at e
      refine (I.hok b u e).stay (fun c v hc z => k c v ?_ z) (fun c hc => by rw [upd_ne (ne_of_none hc hn)]; exact hc) (fun c xs hc => by rw [upd_ne (ne_of_none hc hn)]; exact hc)
      rcases hc with hc | hc
      · rw [hc]
        exact neL e
      · exact neL hc
theorem vals_of_each : ∀ {out : List Value} {ys : List Str}, PySem.W.EachIs (fun v y => ∃ t, v = Value.str y t) out ys → Vals (ys.map V.str) out
  | [], [], _ => .nil
  | [], _ :: _, h => by cases h
  | _ :: _, [], h => by cases h
  | _ :: _, _ :: _, h => by
    cases h with
    | cons h1 t => exact .cons h1 (vals_of_each t)
theorem each_strs {ks : List Str} : ∀ {vs : List Value}, vs.length = ks.length → (∀ (j : Nat) v, vs[j]? = some v → ∃ y t, ks[j]? = some y ∧ v = Value.str y t) → PySem.W.EachIs (fun v y => ∃ t, v = Value.str y t) vs ks := by
  induction ks with
  | nil =>
    intro vs hl _
    cases vs with
    | nil => exact .nil
    | cons v r => cases hl
  | cons k ks ih =>
    intro vs hl h
    cases vs with
    | nil => cases hl
    | cons v r =>
      refine .cons ?_ (ih (by simpa using hl) fun j u e => ?_)
      · obtain ⟨y, t, e1, e2⟩ := h 0 v rfl
        have e3 : k = y := Option.some.inj e1
        exact ⟨t, by rw [e3]; exact e2⟩
      · obtain ⟨y, t, e1, e2⟩ := h (j + 1) u (by simpa using e)
        exact ⟨y, t, by simpa using e1, e2⟩
theorem each_get {α β : Type} {R : α → β → Prop} : ∀ {as : List α} {bs : List β} {i : Nat} {a : α} {b : β}, PySem.W.EachIs R as bs → as[i]? = some a → bs[i]? = some b → R a b
  | _, _, _, _, _, .nil, e, _ => by simp at e
  | _, _, 0, _, _, .cons h _, e1, e2 => by
    simp at e1 e2
    subst e1 e2
    exact h
  | _, _, i + 1, _, _, .cons _ t, e1, e2 => each_get (i := i) t (by simpa using e1) (by simpa using e2)
theorem alike_str (x y : Str) : PySem.W.alike (.str x) (.str y) = true := by simp [PySem.W.alike]
set_option maxHeartbeats 8000000 in
theorem srl_run {x : Str} {ap b1 b2 b3 : Pos} {a f c' : Addr} {kvs : List (Key × V)} {ks : List Str} {qual : Str} {pm ctv : Value} {Q : VK} (hmr : X.mg "repr" = none) (hcalm : X.calm = true) (hr : Room 1 X.A) (hxr : ¬ x = "repr") (hxd : (x == ("__debug__" : Str)) = false)
    (hbd : ∀ (q : Str) (ap : Pos) (b : Expr) (pm cv ctv v : Value), bindArgs (PySem.W.kla_fn "<lambda>" q (lPar x ap) b (lSc x) [] pm cv ctv) ⟨[v], []⟩ = pure [(x, v)])
    (I : Inv X pins σ H s) (hd : H a = some (.dK kvs)) (hks : kvs.map (·.1) = ks.map Sum.inr) (hl : ks.length ≤ 1000) (hsz : ∀ y ∈ ks, (reprText y).length ≤ sizeLine)
    (hf : s.heap.get? f = some (PySem.W.kla_obj "<lambda>" qual (lPar x ap) (lBody x b1 b2 b3) (lSc x) [] pm c' ctv)) (hc : H c' = some (CodeO c' qual))
    (q : ∀ p, H p = none → Q (.ref p) (upd H p (.lst ((byRepr ks).map V.str)))) :
    wpAny (model X.prog X.w) X.A (call (.builtin "sorted") [.ref a] [(Str.ofString "key", .ref f)]) (EP X pins σ Q) X.xe s := by
  obtain ⟨z, lo, vs, rel, dd⟩ := dk_rd I.hok (Or.inl hd)
  obtain ⟨ep, hat⟩ := dd.dictAt
  have hkeys : vs.map (·.1) = ks.map Sum.inr := rel.keys.symm.trans hks
  have hlv : vs.length = ks.length := by
    have e := congrArg List.length hkeys
    rw [List.length_map, List.length_map] at e
    exact e
  have h16 : vs.length ≤ sizeLine := by rw [hlv, sizeLine_eq]; omega
  refine call_function_entry_kw PyProof.Rows.kind_sorted PyProof.Rows.plain_sorted PyProof.Rows.entry_sorted (PyProof.Rows.ksk_s1 _ _) ?_
  unfold Builtin.«sorted»
  refine wpAny_bind (m := checkCount "sorted" 1 1 _) (wpAny_pure ?_)
  refine wpAny_bind (PySem.W.kdu_collect (A := X.A.in1) (PySem.W.kdl_dict (knd := mixKind X.prog X.w) (kvs := vs) (ep := ep) lo) (I.ok.hd hcalm) hat h16 fun h' tk acc hk hacc => ?_)
  have hal : acc.toList.length = ks.length := by rw [Array.length_toList, hacc.1, hlv]
  have hS : PySem.W.EachIs (fun v y => ∃ t, v = Value.str y t) acc.toList ks := each_strs hal fun j v e => by
    obtain ⟨k, u, e1, e2⟩ := hacc.2 j v (by rw [← Array.getElem?_toList]; exact e)
    have e3 : (vs.map (·.1))[j]? = some k := by rw [List.getElem?_map, e1]; rfl
    rw [hkeys, List.getElem?_map] at e3
    cases e4 : ks[j]? with
    | none => rw [e4] at e3; cases e3
    | some y =>
      rw [e4] at e3
      have e5 : Sum.inr y = k := Option.some.inj e3
      subst e5
      obtain ⟨t, ev⟩ := Value.isStrOf_shape (x := y) (v := v) e2
      exact ⟨y, t, rfl, ev⟩
  refine wpAny_bind (wpAny_newList ?_ (by rw [hal, sizeLine_eq]; omega))
  have hoL : (h'.push (seqObj "list" acc.toList.toArray 0)).get? h'.objs.size = some (seqObj "list" acc.toList.toArray 0) := Heap.get?_push_size _ rfl
  have hk2 : ∀ b o, s.heap.get? b = some o → (h'.push (seqObj "list" acc.toList.toArray 0)).get? b = some o := fun b o e => Heap.get?_push_of_some _ (hk b o e)
  show wpAny _ _ _ _ _ { s with heap := h'.push (seqObj "list" acc.toList.toArray 0), toks := tk }
  have I2 : Inv X pins σ H { s with heap := h'.push (seqObj "list" acc.toList.toArray 0), toks := tk } := I.kept hk2
  obtain ⟨m, F⟩ := I2.fr
  have I1 : Inv X pins σ H { s with heap := h', toks := tk } := I.kept hk
  have hLt : X.env.locals < h'.objs.size := I1.lt
  have haL : h'.objs.size ≠ X.env.locals := Nat.ne_of_gt hLt
  have ha0 : X.base.get? h'.objs.size = none := Heap.get?_none_of_le (Nat.le_trans F.above (Nat.le_of_lt hLt))
  have N := news_at haL ha0 hoL
  have hfL : f ≠ X.env.locals := fun e => by
    obtain ⟨m', ⟨o', es, ep', ho', hd', _⟩, _⟩ := I.loc
    rw [e, ho'] at hf
    have e2 := Option.some.inj hf
    rw [e2] at hd'
    cases hd'
  have hcL : c' ≠ X.env.locals := fun e => by
    rw [e, I.free] at hc
    cases hc
  have hfD : f ≠ h'.objs.size := Nat.ne_of_lt (Heap.lt_size (hk _ _ hf))
  obtain ⟨⟨oc, ovs, ot, hc1, hc2, hc3⟩, _, _⟩ := I.hok c' _ hc
  have hcD : c' ≠ h'.objs.size := Nat.ne_of_lt (Heap.lt_size (hk _ _ hc1))
  obtain ⟨mb, hb1, hb2⟩ := I.mod.blt
  refine wpAny_bind (wpAny_holding (wpAny_call_entry_kw PyProof.Rows.slot_list_sort ⟨_, hoL, rfl⟩ PyProof.Rows.entry_list_sort ?_ (PyProof.Rows.ksk_l1 _ _)))
  rw [PyProof.Rows.ksk_t1]
  refine PySem.W.key_tree (b := false) (kz := ks.map fun y => PyData.str (reprText y)) (news := rest X.base (h'.push (seqObj "list" acc.toList.toArray 0)) X.env.locals h'.objs.size) F (fun p hp => N p (List.mem_cons_of_mem _ hp)) hoL haL ha0 rest_ne
    (by rw [List.length_map, hal]) (by rw [hal, sizeLine_eq]; omega) (PySem.W.AllAlike.of (fun b b' => alike_str _ _)) (PySem.W.Sortable.others fun b => ⟨by simp, by simp⟩) (fun d hd => ?_) (fun i v k hv hk' h4 tk4 own F4 N4 => ?_) fun h3 tk3 out c3 F3 N3 ko => ⟨_, rfl, ?_⟩
  · obtain ⟨y, _, rfl⟩ := List.mem_map.mp hd
    have := hr.un
    show X.A.units + 1 + 1 + PyData.depth (.str (reprText y)) < cLine
    rw [PyData.depth]
    omega
  · have hkp : ∀ b o, b ≠ X.env.locals → b ≠ h'.objs.size → (h'.push (seqObj "list" acc.toList.toArray 0)).get? b = some o → h4.get? b = some o := fun b o => kept_of_news I2.bk F4 (fun z hz => N4 z (List.mem_append_left _ hz)) b o
    rw [List.getElem?_map] at hk'
    cases e4 : ks[i]? with
    | none =>
      rw [e4] at hk'
      cases hk'
    | some y =>
      rw [e4] at hk'
      cases hk'
      obtain ⟨t, rfl⟩ : ∃ t, v = Value.str y t := by
        exact each_get hS hv e4
      refine repr_call (s := { s with heap := h4, toks := tk4 }) hxr hxd hbd (hkp _ _ hfL hfD (hk2 _ _ hf)) ⟨c', oc, ovs, ot, rfl, hkp _ _ hcL hcD (hk2 _ _ hc1), hc2, hc3⟩ (I.mod.nolimit.keeps F4.keep) (I.mod.glob.keeps F4.keep) hmr (hb1.keeps F4.keep)
        ((hb2 "repr" (by decide)).trans (by decide +kernel)) ?_ (hsz y (List.mem_of_getElem? e4)) fun h5 tk5 t5 hk5 => ?_
      · have := hr.dp
        show X.A.depth < recursionLimit
        omega
      · exact ⟨h5, tk5, [], rfl, PySem.W.KeyIs.str _ _, fun p hp => (nomatch hp), F4.kept hk5, fun p hp => (N4.grown hk5) p (by simpa using hp)⟩
  · have ho : PySem.W.EachIs (fun v y => ∃ t, v = Value.str y t) out (byRepr ks) := PySem.W.keyedOut_each _ ko hS
    refine wpAny_pure ⟨_, rfl, ?_⟩
    have hlen : ((byRepr ks).map V.str).length ≤ sizeLine := by
      rw [List.length_map, byRepr, List.length_mergeSort, sizeLine_eq]
      omega
    have hDo : h3.get? h'.objs.size = some (seqObj "list" (List.toArray out) c3) := (N3 _ List.mem_cons_self).1
    refine ⟨.ref h'.objs.size, upd H h'.objs.size (.lst ((byRepr ks).map V.str)), ?_, rfl, q _ (I1.hok.fresh (Nat.le_refl _))⟩
    have hkp : ∀ b o, b ≠ X.env.locals → b ≠ h'.objs.size → (h'.push (seqObj "list" acc.toList.toArray 0)).get? b = some o → h3.get? b = some o := fun b o => kept_of_news I2.bk F3 (fun z hz => N3 z (List.mem_cons_of_mem _ hz)) b o
    have J := inv_laidF (s := { s with heap := h', toks := tk }) (o := .lst ((byRepr ks).map V.str)) (h' := h3) (a := h'.objs.size) (t' := tk3) I1 (fun b u h1 e => hkp b u h1 (Nat.ne_of_lt (Heap.lt_size e)) (Heap.get?_push_of_some _ e)) (fun m' hm => by
      have e1 : m' = m := (hm.keeps (h' := h'.push (seqObj "list" acc.toList.toArray 0)) fun b o e => Heap.get?_push_of_some _ e).eq_nsMap.trans F.ns.eq_nsMap.symm
      rw [e1]
      exact F3.ns) (Nat.le_refl _) ⟨hlen, out, c3, vals_of_each ho, hDo⟩
    exact J
theorem pe_srl {T : List (Addr × Str)} {c P : Addr} {e : Expr} {ta : TA} {x : Str} {p pos kpos lpos ap b1 b2 b3 : Pos} (TB : TabB X.base X.mg c P) (hcode : X.env.code = .ref c) (hmT : (P, X.env.qual ++ "<lambda>") ∈ T)
    (huT : ∀ p ∈ T, p.1 = P → p.2 = X.env.qual ++ "<lambda>") (hms : X.mg "sorted" = none) (hmr : X.mg "repr" = none) (hgs : Gl X "sorted") (hcalm : X.calm = true) (hr : Room 1 X.A) (hxr : ¬ x = "repr") (hxd : (x == ("__debug__" : Str)) = false)
    (hbd : ∀ (q : Str) (ap : Pos) (b : Expr) (pm cv ctv v : Value), bindArgs (PySem.W.kla_fn "<lambda>" q (lPar x ap) b (lSc x) [] pm cv ctv) ⟨[v], []⟩ = pure [(x, v)])
    (ha : PA X [e] ta) (hclo : cloFrom X.env.cells (lSc x).names [] = [] := by rfl) (hdf : defaultsOf (lPar x ap) X.env = ([], []) := by rfl)
    (hs : backTo pos (starEach [e] X.env) = (false, eval e X.env) :: backTo pos (starEach [] X.env) := by rfl) (hpl : (backTo pos (starEach [e] X.env)).any (·.1) = false := by rfl) :
    PE X (.Call (.Name "sorted" p) [e] [⟨some "key", .Lambda (lPar x ap) (lBody x b1 b2 b3) (lSc x) lpos, kpos⟩] pos) (tSrl T ta) := by
  refine ⟨fun pins s σ H Q I h => ?_⟩
  refine wpAny_Call_Name_kw (ld_blt I hgs hms PyProof.Rows.boot_sorted ?_)
  refine PyProof.Rows.callWith_kw (thn (ha.run pos pins s σ H _ I h) fun us s1 ⟨vs, H1, I1, r1, a, kvs, ks, ea, hd, hks, hl, hsz, hT, q⟩ => ?_) hs hpl rfl rfl
  subst ea
  obtain ⟨u, rfl, ru⟩ := vals1 r1
  cases (show u = Value.ref a from ru)
  show wpAny _ _ (evalAll [(do let v ← eval (.Lambda (lPar x ap) (lBody x b1 b2 b3) (lSc x) lpos) X.env; standAt pos; pure v)]) _ _ s1
  refine wpAny_evalAll_cons (wpAny_bind ?_)
  refine lam_make2 I1 TB hcode hmT huT hT hdf (fun y hy hf => ?_) fun f c' pm ctv H2 s2 I2 eN hT2 hfo hfn hfr hco => ?_
  · simp [lSc] at hy
    rcases hy with rfl | rfl <;> cases hf
  · refine wpAny_bind (wpAny_standAt (wpAny_pure ?_))
    refine wpAny_evalAll_nil ?_
    rw [hclo] at hfo
    exact srl_run hmr hcalm hr hxr hxd hbd I2 (eN _ _ hd (fun ps z => by cases z)) hks hl hsz hfo hco fun p hp => q H2 p eN hT2 hp
end
end Srl

/-! rules for use within a comprehension's block: the written part K told apart from the block's own context -/
namespace Kx
open PySem L2
variable {X : Cx} {K : PySem.W.Frag}
theorem lenK (h : X.K = K := by rfl) : CallR X (.builtin "len") (fun xs H Q => ∃ p ys, xs = [V.ref p] ∧ (SqL K H p ys ∨ SqT K H p ys) ∧ Q (.int ys.length) H) := by
  subst h
  exact call_len_seq
theorem listK (h : X.K = K := by rfl) : CallR X (.type "list") (fun xs H Q => ∃ p ys, xs = [V.ref p] ∧ (SqL K H p ys ∨ SqT K H p ys) ∧ ∀ l, H l = none → Q (.ref l) (upd H l (.lst ys))) := by
  subst h
  exact call_list_of
theorem tupleK (h : X.K = K := by rfl) : CallR X (.type "tuple") (fun xs H Q => ∃ p ys, xs = [V.ref p] ∧ ((SqL K H p ys ∧ ∀ l, H l = none → Q (.ref l) (upd H l (.tup ys))) ∨ (SqT K H p ys ∧ Q (.ref p) H))) := by
  subst h
  exact call_tuple_of
theorem isiK (h : X.K = K := by rfl) : CallR X (.builtin "isinstance") (rIsi K) := by
  subst h
  exact call_isi
theorem ixlK (h : X.K = K := by rfl) : IxR X (rIxL K) := by
  subst h
  exact ix_list
theorem ixtK (h : X.K = K := by rfl) : IxR X (rIxT K) := by
  subst h
  exact ix_tup
theorem ixsK (h : X.K = K := by rfl) : IxR X (rIx K) := by
  subst h
  exact ix_seq
theorem inK (h : X.K = K := by rfl) : OpR X (compareOp .In) (rIn K false) := by
  subst h
  exact op_in_seq
theorem ninK (h : X.K = K := by rfl) : OpR X (compareOp .NotIn) (rIn K true) := by
  subst h
  exact op_notIn_seq
theorem eqDK (hu : X.A.units + 64 < cLine) (h : X.K = K := by rfl) : OpR X (compareOp .Eq) (rEqD K) := by
  subst h
  exact op_eqD hu
theorem neDK (hu : X.A.units + 64 < cLine) (h : X.K = K := by rfl) : OpR X (compareOp .NotEq) (rNeD K) := by
  subst h
  exact op_neD hu
theorem fldK {e : Expr} {ta : TE} {f : Str} {pos : Pos} (he : PE X e ta) (hb : attributeBase e f X.env (eval e X.env) = eval e X.env) (h : X.K = K := by rfl) : PE X (.Attribute e f pos) (tFld K ta f) := by
  subst h
  exact pe_fld he hb
theorem tupK {es : List Expr} {k : Nat} {t : TGs} {n : Nat} {pos : Pos} (hc : X.calm = true) (hs : PGs X es t) (hn : (assignEach es X.env).length = n := by rfl) (hst : (assignEach es X.env).findIdx? (·.1) = none := by rfl) (h : X.K = K := by rfl) : PG X (.Tuple es k pos) (gTup K n t) := by
  subst h
  exact pg_tup hc hs hn hst
end Kx

/-! enumerate over a tuple (the hand layer's rule is for lists alone); over either -/
namespace EnT
open PySem L2 PySem.Spec PyProof.Rows AutoSeq1
theorem meets_newT (l : Addr) (items : Array Value) (n : Nat) (dct : Option Addr) (sl : Array (Option Value)) :
    Meets (Builtin.«enumerate.__new__» ⟨[.type "enumerate", .ref l], []⟩) (fun _ R s => s.heap.get? l = some { cls := .type "tuple", dict := dct, data := .seq items n, slots := sl } ∧
      R (.ok (.ret (.ref (s.heap.push { cls := .type "tuple_iterator", data := .fields #[.ref l, .int 0 0] }).objs.size)))
        { s with heap := (s.heap.push { cls := .type "tuple_iterator", data := .fields #[.ref l, .int 0 0] }).push { cls := .type "enumerate", data := .fields #[.none, .bool false, .ref s.heap.objs.size, rawInt 0, .none, .none] } }) :=
  .of_wp fun prog w A R s h => by
    obtain ⟨hp, g, d, tk, os⟩ := s
    obtain ⟨hl, h⟩ := h
    have hsub := sub_enumerate
    have hL : Heap.IsTuple (Shared.heap ⟨hp, g, d, tk, os⟩) l items := ⟨_, hl, rfl, n, rfl⟩
    wp_walk using wpAny_loadPart' hl
    refine wpAny_stack_any fun st => wpAny_pure ?_
    split
    · rename_i c _ _ _ _ _
      cases (c == Value.type "enumerate")
      · wp_walk using wpAny_loadPart' hl, wpAny_pyIter_tuple hL
        exact ⟨_, rfl, h⟩
      · wp_walk using wpAny_loadPart' hl, wpAny_pyIter_tuple hL
        exact ⟨_, rfl, h⟩
    · wp_walk using wpAny_loadPart' hl, wpAny_pyIter_tuple hL
      exact ⟨_, rfl, h⟩
section
variable {prog : Program} {w : World} {A : Around} {E : Value → Shared → Prop} {s : Shared}
theorem call_enumT {l : Addr} {items : Array Value} {Q : Value → Shared → Prop} (hL : s.heap.IsTuple l items)
    (h : ∀ h', IsEnum h' (s.heap.objs.size + 1) s.heap.objs.size 0 .none → h'.IsTupleIter s.heap.objs.size l 0 → h'.objs.size = s.heap.objs.size + 2 →
      (∀ b o, s.heap.get? b = some o → h'.get? b = some o) → Q (.ref (s.heap.objs.size + 1)) { s with heap := h' }) :
    wpAny (model prog w) A (call (.type "enumerate") [.ref l]) Q E s := by
  obtain ⟨⟨c, dct, dt, sl⟩, hl, hc, n, hd⟩ := hL
  replace hc : c = .type "tuple" := hc
  replace hd : dt = .seq items n := hd
  subst hc hd
  refine callType_new F.called_enumerate (by decide) (F.typeCall_enumerate_1 _) (F.newCall_enumerate_1 _) (fun obj => F.args_object_init_2 obj _) F.entry_enumerate_new
    (meets_newT l items n dct sl) ⟨hl, ?_⟩
  have hz : (s.heap.push { cls := .type "tuple_iterator", data := .fields #[.ref l, .int 0 0] }).objs.size = s.heap.objs.size + 1 := Heap.size_push ..
  show _ ∧ _
  rw [hz]
  have he : IsEnum ((s.heap.push { cls := .type "tuple_iterator", data := .fields #[.ref l, .int 0 0] }).push
      { cls := .type "enumerate", data := .fields #[.none, .bool false, .ref s.heap.objs.size, rawInt 0, .none, .none] }) (s.heap.objs.size + 1) s.heap.objs.size 0 .none := by
    have := Heap.get?_push_size (s.heap.push { cls := .type "tuple_iterator", data := .fields #[.ref l, .int 0 0] })
      (o := { cls := .type "enumerate", data := .fields #[.none, .bool false, .ref s.heap.objs.size, rawInt 0, .none, .none] }) rfl
    rw [hz] at this; exact this
  refine ⟨⟨_, he, rfl⟩, h _ he ⟨_, Heap.get?_push_of_some _ (Heap.get?_push_size _ rfl), rfl, rfl⟩ (by rw [Heap.size_push, hz]) fun b o x => Heap.get?_push_of_some _ (Heap.get?_push_of_some _ x)⟩
end
/-- the tuple at a, each item in a new pair -/
def IteT (K : PySem.W.Frag) (a : Addr) : It :=
  ⟨fun i H => ∃ (xs : List V) (x : V), SqT K H a xs ∧ xs[i]? = some x, fun i H v H' => ∃ T x, v = .ref T ∧ H T = none ∧ H' = upd H T (.tup [.int (i : Nat), x]) ∧ ∀ xs, SqT K H a xs → xs[i]? = some x, fun i H => ∃ xs : List V, SqT K H a xs ∧ xs.length = i⟩
theorem turn_enumT {P : Program} {w : World} {K : PySem.W.Frag} {elts : List Expr} {kk : Nat} {tpos : Pos} (a e it : Addr) :
    Turn P w K (.Tuple elts kk tpos) (IteT K a) [e, it] e (fun i h => (∃ old, IsEnum h e it ((i : Nat) : Int) old) ∧ h.IsTupleIter it a i ∧ e ≠ it ∧ a ≠ it ∧ a ≠ e) where
  mem := by simp
  obj := fun i h st b hb => by
    obtain ⟨⟨old, he⟩, ⟨o, ho, hc, hd⟩, _⟩ := st
    have e' : b = e ∨ b = it := by simpa using hb
    rcases e' with z | z
    · rw [z]; exact ⟨_, he, fun v q => nomatch q⟩
    · rw [z]; exact ⟨o, ho, fun v q => by rw [hd] at q; cases q⟩
  keep := fun i h h' st k => let ⟨⟨old, he⟩, hi, hne⟩ := st; ⟨⟨old, k e (by simp) _ he⟩, hi.at fun o q => k it (by simp) o q, hne⟩
  item := by
    intro X hP hw hK hc i pins s σ H E I hf st hg
    subst hP hw hK
    obtain ⟨⟨old, he⟩, hit, hne, hai, hae⟩ := st
    obtain ⟨xs, x, hq, hx⟩ := hg
    obtain ⟨its, rv, p, hz⟩ := I.tuple hq
    obtain ⟨u, hu, ru⟩ := rv.get hx
    have hel : e < s.heap.objs.size := Heap.lt_size he
    have hil : it < s.heap.objs.size := by obtain ⟨_, q, _⟩ := hit; exact Heap.lt_size q
    have hlt : i < its.toArray.size := by
      have := (List.getElem?_eq_some_iff.mp hu).1
      simpa using this
    refine wpAny_pyNext_enum_itemD (Draws.tuple (A := X.A.in1) (show X.A.in1.handled = none from I.ok.hd hc) it a hai its.toArray) he ⟨hit, (show s.heap.IsTuple a its.toArray from p)⟩ hlt hne (by simp [hne, Ne.symm hae]) fun y h' tk hy ho ⟨hit', _⟩ hT hsz hk => ?_
    have hyu : y = u := by
      have q : its[i]? = some y := by simpa using hy
      rw [hu] at q
      exact (Option.some.inj q).symm
    subst hyu
    refine ⟨_, rfl, wpAny_letOwnedTupleGo_enum (s := { s with heap := h', toks := tk + 1 }) ho fun h'' he' sb => ?_⟩
    have hT2 : h''.get? s.heap.objs.size = some { cls := .type "tuple", data := .seq #[.int i tk, y] } := (sb.2 _ (Nat.ne_of_gt hel)).trans hT
    have new : ObjOk X.prog X.w (upd H s.heap.objs.size (.tup [.int (i : Nat), x])) h'' s.heap.objs.size (.tup [.int (i : Nat), x]) :=
      ⟨by show 2 ≤ sizeLine; decide, [.int i tk, y], .cons ⟨_, rfl⟩ (.cons ru .nil), ⟨_, hT2, rfl, _, rfl⟩⟩
    have I1 : Inv X pins σ (upd H s.heap.objs.size (.tup [.int (i : Nat), x])) { s with heap := h'', toks := tk + 1 } :=
      I.turnedNew (ch := [e, it]) (fun b ob hb q => (sb.2 b (fun z => hb (by simp [z]))).trans (hk b ob (fun z => hb (by simp [z])) (fun z => hb (by simp [z])) q)) hf (Nat.le_refl _) new
    refine ⟨.ref s.heap.objs.size, _, I1, rfl, ⟨_, x, rfl, I.hok.fresh (Nat.le_refl _), rfl, fun ys hy => by rw [I.tuple_inj hy hq]; exact hx⟩, ⟨⟨y, ?_⟩, hit'.at fun o q => (sb.2 it (Ne.symm hne)).trans q, hne, hai, hae⟩, fun b hb => ?_⟩
    · have e1 : ((i + 1 : Nat) : Int) = (i : Int) + 1 := by omega
      rw [e1]; exact he'
    · have hb' : b < s.heap.objs.size := by
        have e' : b = e ∨ b = it := by simpa using hb
        rcases e' with z | z
        · rw [z]; exact hel
        · rw [z]; exact hil
      rw [upd_ne (Nat.ne_of_lt hb')]
      exact (hf b hb).1
  done := by
    intro X hP hw hK hc i pins s σ H E I hf st hg
    subst hP hw hK
    obtain ⟨⟨old, he⟩, hit, hne, hai, hae⟩ := st
    obtain ⟨xs, hq, hx⟩ := hg
    obtain ⟨its, rv, p, hz⟩ := I.tuple hq
    obtain ⟨f0, f1, f2, f3, f4, f5⟩ := hf it (by simp)
    have hl : its.toArray.size = i := by
      have := rv.length
      simp
      omega
    refine wpAny_pyNext_enum_endD (Draws.tuple (A := X.A.in1) (show X.A.in1.handled = none from I.ok.hd hc) it a hai its.toArray) he ⟨by rw [hl]; exact hit, (show s.heap.IsTuple a its.toArray from p)⟩ fun h' eb => ⟨rfl, I.turned (t' := s.toks) (fun b o hb q => eb b o hb q) f0 f1 f3 f4 f5⟩
  self := fun A i s Q E st h => let ⟨⟨_, he⟩, _⟩ := st; wpAny_pyIter_enum he h
/-- what enumerate of the list or tuple at a goes through -/
def EnJ (K : PySem.W.Frag) (a : Addr) (xs : List V) (J : It) (H : Hp) : Prop := (J = Ite K a ∧ SqL K H a xs) ∨ (J = IteT K a ∧ SqT K H a xs)
/-- enumerate of a list or a tuple -/
def iEnumA (K : PySem.W.Frag) (ta : TA) : TI := fun σ H R => ta σ H fun vs H1 => ∃ a xs, vs = [.ref a] ∧ (SqL K H1 a xs ∨ SqT K H1 a xs) ∧ ∀ J, EnJ K a xs J H1 → R J H1
theorem pi_enumA {X : Cx} {e : Expr} {ta : TA} {p pos tpos : Pos} {elts : List Expr} {kk : Nat} (hg : Gl X "enumerate") (hm : X.mg "enumerate" = none) (ha : PA X [e] ta) (hs : starEach [e] X.env = [(false, eval e X.env)] := by rfl) :
    PI X (.Tuple elts kk tpos) (.Call (.Name "enumerate" p) [e] [] pos) (iEnumA X.K ta) := by
  refine ⟨fun pins s σ H R I h => ?_⟩
  refine Call_ (ld_blt I hg hm boot_enumerate (PyProof.Rows.callWith_type1 (thn (ha.run pos pins s σ H _ I h) fun us s1 ⟨vs, H1, I1, r1, q1⟩ => ?_) hs rfl))
  obtain ⟨a, xs, ex, hq, hJ⟩ := q1
  subst ex
  cases r1 with
  | cons r rr =>
    cases rr
    cases r
    rcases hq with hq | hq
    · have q := hJ _ (.inl ⟨rfl, hq⟩)
      obtain ⟨its, rv, p', hz⟩ := I1.list hq
      refine call_enumerate_list p'.isList fun h' he hit hsz hk => wpAny_pyIter_enum he ?_
      have I2 : Inv X pins σ H1 { s1 with heap := h' } := I1.kept (t' := s1.toks) hk
      refine ⟨s1.heap.objs.size + 1, [s1.heap.objs.size + 1, s1.heap.objs.size], _, _, H1, rfl, I2, turn_enum a (s1.heap.objs.size + 1) s1.heap.objs.size, ⟨⟨.none, he⟩, hit, Nat.succ_ne_self _⟩, fun b hb => ?_, q⟩
      have e' : b = s1.heap.objs.size + 1 ∨ b = s1.heap.objs.size := by simpa using hb
      have hle : s1.heap.objs.size ≤ b := by
        rcases e' with z | z
        · rw [z]; exact Nat.le_add_right _ _
        · rw [z]; exact Nat.le_refl _
      exact I1.fpOk hle (I1.hok.fresh hle)
    · have q := hJ _ (.inr ⟨rfl, hq⟩)
      obtain ⟨its, rv, p', hz⟩ := I1.tuple hq
      have p2 : s1.heap.IsTuple a its.toArray := p'
      have hal : a < s1.heap.objs.size := let ⟨o, ho, _⟩ := p2; Heap.lt_size ho
      refine call_enumT p2 fun h' he hit hsz hk => wpAny_pyIter_enum he ?_
      have I2 : Inv X pins σ H1 { s1 with heap := h' } := I1.kept (t' := s1.toks) hk
      refine ⟨s1.heap.objs.size + 1, [s1.heap.objs.size + 1, s1.heap.objs.size], _, _, H1, rfl, I2, turn_enumT a (s1.heap.objs.size + 1) s1.heap.objs.size, ⟨⟨.none, he⟩, hit, Nat.succ_ne_self _, Nat.ne_of_lt hal, Nat.ne_of_lt (Nat.lt_succ_of_lt hal)⟩, fun b hb => ?_, q⟩
      have e' : b = s1.heap.objs.size + 1 ∨ b = s1.heap.objs.size := by simpa using hb
      have hle : s1.heap.objs.size ≤ b := by
        rcases e' with z | z
        · rw [z]; exact Nat.le_add_right _ _
        · rw [z]; exact Nat.le_refl _
      exact I1.fpOk hle (I1.hok.fresh hle)
theorem walk_enumT {K : PySem.W.Frag} {a : Addr} {xs : List V} : Walk (IteT K a) xs.length (fun H => SqT K H a xs) (YPair (fun i => some (.int (i : Nat))) (fun i => xs[i]?)) := by
  refine ⟨fun i _ hi q => ⟨xs, xs[i], q, by simp [hi]⟩, fun _ q => ⟨xs, q, rfl⟩, fun i H v H' _ q y => ?_⟩
  obtain ⟨T, x, h1, h2, h3, h4⟩ := y
  exact ⟨T, .int (i : Nat), x, h1, h2, h3, rfl, h4 xs q⟩
/-- the walk of both at once -/
theorem walk_enumA {K : PySem.W.Frag} {a : Addr} {xs : List V} {H : Hp} {J : It} (h : EnJ K a xs J H) :
    ∃ G : Hp → Prop, Walk J xs.length G (YPair (fun i => some (.int (i : Nat))) (fun i => xs[i]?)) ∧ ∀ H', (SqL K H a xs → SqL K H' a xs) → (SqT K H a xs → SqT K H' a xs) → G H' := by
  rcases h with ⟨rfl, q⟩ | ⟨rfl, q⟩
  · exact ⟨_, walk_enum, fun H' h1 _ => h1 q⟩
  · exact ⟨_, walk_enumT, fun H' _ h2 => h2 q⟩
end EnT

/-! tuple(d) of a dict: its keys -/
namespace TpD
open PySem L2 PySem.Spec PyProof.Rows
section
variable {prog : Program} {w : World} {A : Around} {E : Value → Shared → Prop} {s : Shared}
theorem code_new {T : String} {r d : Addr} {n : Nat} {P : Nat → Value → Prop} {OK : Heap → Prop} {Q₁ : Value → Shared → Prop} (K : PySem.W.KdlSrc prog w T r d n P OK) (hh : A.handled = none) (hTI : s.TypeIs (.ref r) "dict") (hok : OK s.heap) (hn : n ≤ sizeLine)
    (h : ∀ (h' : Heap) (tk : Nat) (acc : Array Value), (∀ b o, s.heap.get? b = some o → h'.get? b = some o) → ItemsOf P acc n → Q₁ (.ref h'.objs.size) { s with heap := h'.push { cls := .type "tuple", data := .seq acc }, toks := tk }) :
    codeAny (model prog w) A (.call (.builtin "tuple.__new__") ⟨[.type "tuple", .ref r], []⟩) (wants Q₁ E) s := by
  refine codeAny_of_tree ?_
  show wpAny _ A.in1 (do checkBuiltinCall "tuple.__new__" ⟨[.type "tuple", .ref r], []⟩; again (.builtin "tuple.__new__" ⟨[.type "tuple", .ref r], []⟩)) _ _ s
  refine wpAny_bind (wpAny_of_eq (F.newCall_tuple_1 _) (wpAny_pure ⟨plainId_quiet F.plain_tuple_new _, codeAny_builtin F.entry_tuple_new ?_⟩))
  rw [Around.under_plainId F.plain_tuple_new _]
  have hsub := sub_tuple_self
  have hinit := init_tuple_lookup
  have hmh := madeHere_tuple
  have hh1 : A.in1.handled = none := hh
  wp_walk using wpAny_typeOf hTI, PySem.W.kdu_collect (A := A.in1) K hh1 hok hn
  intro h' tk acc hk hacc
  show wpAny _ _ (Builtin.Tuple.tupleExact acc.toList.toArray >>= fun v => ret v) _ _ _
  unfold Builtin.Tuple.tupleExact
  refine wpAny_bind (wpAny_newObj_type ?_ (by show acc.toList.toArray.size ≤ sizeLine; simp only [Array.toArray_toList]; rw [hacc.1]; exact hn))
  refine wpAny_pure ?_
  have e : acc.toList.toArray = acc := by simp
  rw [e]
  exact h h' tk acc hk hacc
theorem call_of {T : String} {r d : Addr} {n : Nat} {P : Nat → Value → Prop} {OK : Heap → Prop} {Q : Value → Shared → Prop} (K : PySem.W.KdlSrc prog w T r d n P OK) (hh : A.handled = none) (hTI : s.TypeIs (.ref r) "dict") (hok : OK s.heap) (hn : n ≤ sizeLine)
    (hQ : ∀ (h' : Heap) (tk : Nat) (acc : Array Value), (∀ b o, s.heap.get? b = some o → h'.get? b = some o) → ItemsOf P acc n → Q (.ref h'.objs.size) { s with heap := h'.push { cls := .type "tuple", data := .seq acc }, toks := tk }) :
    wpAny (model prog w) A (call (.type "tuple") [.ref r]) Q E s := by
  refine callType_codes (Q₁ := fun obj s₁ => s₁.TypeIs obj "tuple" ∧ Q obj s₁) F.called_tuple (F.typeCall_tuple_1 _) F.entry_object_init
    (code_new (A := A.in1) K hh hTI hok hn fun h' tk acc hk hacc => ⟨⟨_, Heap.get?_push_size _ rfl, rfl⟩, hQ h' tk acc hk hacc⟩) fun obj s₁ h₁ => ?_
  exact ⟨h₁.1, F.args_object_init_2 obj _, object_init_meets F.called_tuple.init.lookup F.called_tuple.made (by decide) prog w A.in1 _ s₁ ⟨h₁.1, rfl, h₁.2⟩⟩
end
def rTupD : List V → Hp → VK → Prop := fun xs H Q => ∃ p kvs, xs = [.ref p] ∧ H p = some (.dK kvs) ∧ ∀ q, H q = none → Q (.ref q) (upd H q (.tup (kvs.map fun kv => kV kv.1)))
theorem call_tuple_dK {X : Cx} (hc : X.calm = true) : CallR X (.type "tuple") rTupD := by
  intro pins s σ H xs us Q I r h
  obtain ⟨p, kvs, e, hk, q⟩ := h
  subst e
  obtain ⟨u, eu, rx⟩ := vals1 r
  subst eu
  obtain rfl : u = Value.ref p := rx
  obtain ⟨z, lo, vs, rk, hd⟩ := (show ObjOk X.prog X.w H s.heap p (.dK kvs) from I.hok p _ hk)
  obtain ⟨ep, hat⟩ := hd.dictAt
  have hl : kvs.length = vs.length := Paired.length rk
  refine call_of (PySem.W.kdl_dict (knd := mixKind X.prog X.w) (kvs := vs) (ep := ep) lo) (I.ok.hd hc) hd.typeIs hat (by rw [← hl]; exact z) fun h' tk acc' hkeep hacc => ?_
  have hn : H h'.objs.size = none := (I.kept (h' := h') (t' := tk) hkeep).hok.fresh (Nat.le_refl _)
  refine ⟨.ref h'.objs.size, upd H h'.objs.size (.tup (kvs.map fun kv => kV kv.1)), (I.kept (h' := h') (t' := tk) hkeep).laid (t' := tk) (fun b o e => Heap.get?_push_of_some _ e) (Nat.le_refl _) (show ObjOk X.prog X.w _ _ _ (.tup (kvs.map fun kv => kV kv.1)) from ⟨?_, acc'.toList, ?_, ?_⟩), rfl, q _ hn⟩
  · rw [List.length_map]; exact z
  · have el : acc'.toList.length = acc'.size := by simp
    refine vals_of_at (by rw [List.length_map, el, hacc.1, hl]) fun j x w h1 h2 => ?_
    obtain ⟨k, y, hky, hi⟩ := hacc.2 j w (by rw [← Array.getElem?_toList]; exact h2)
    have e1 : (kvs.map (·.1))[j]? = some k := by
      rw [KV.keys rk, List.getElem?_map, hky] <;> rfl
    have e2 : (kvs.map fun kv => kV kv.1)[j]? = some (kV k) := by
      have e3 : (kvs.map fun kv => kV kv.1) = (kvs.map (·.1)).map kV := by rw [List.map_map] <;> rfl
      rw [e3, List.getElem?_map, e1] <;> rfl
    rw [e2] at h1
    cases h1
    exact keyIs_rel hi
  · rw [Array.toArray_toList]
    exact IsTup.new _ _
end TpD

/-! texts in order: one list alone is in order of those with the same texts -/
namespace Srt
open PySem PySem.Spec PyProof.Rows
def LeS (a b : Str) : Prop := a.cps.toList ≤ b.cps.toList
theorem leS_of {a b : Str} (h : ltCps b.cps.toList a.cps.toList = false) : LeS a b := by
  rw [ltCps_eq] at h
  exact List.not_lt.mp (of_decide_eq_false h)
theorem leS_to {a b : Str} (h : LeS a b) : ltCps b.cps.toList a.cps.toList = false := by
  rw [ltCps_eq]
  exact decide_eq_false (List.not_lt.mpr h)
theorem leS_trans {a b c : Str} (h : LeS a b) (k : LeS b c) : LeS a c := List.le_trans h k
theorem leS_anti {a b : Str} (h : LeS a b) (k : LeS b a) : a = b := by
  have e : a.cps.toList = b.cps.toList := List.le_antisymm h k
  cases a
  cases b
  simp at e
  rw [e]
theorem rising_pw : ∀ (r : List Str) (p : Str), risingS p r = true → (p :: r).Pairwise LeS
  | [], p, _ => List.pairwise_singleton _ _
  | x :: r, p, h => by
    have h : (!ltCps x.cps.toList p.cps.toList && risingS x r) = true := h
    obtain ⟨h1, h2⟩ := Bool.and_eq_true_iff.mp h
    have ih := rising_pw r x h2
    have hpx : LeS p x := leS_of (by simpa using h1)
    refine List.pairwise_cons.mpr ⟨fun y hy => ?_, ih⟩
    rcases List.mem_cons.mp hy with rfl | hy
    · exact hpx
    · exact leS_trans hpx ((List.pairwise_cons.mp ih).1 y hy)
theorem sorted_pw {l : List Str} (h : sortedS l = true) : l.Pairwise LeS := by
  cases l with
  | nil => exact .nil
  | cons x r => exact rising_pw r x h
theorem sorted_of {l : List Str} (h : l.Pairwise LeS) : sortedS l = true := sortedS_of_pairwise l (h.imp fun h => leS_to h)
theorem sorted_filter {l : List Str} (h : sortedS l = true) (p : Str → Bool) : sortedS (l.filter p) = true := sorted_of ((sorted_pw h).filter p)
theorem sorted_eq {l m : List Str} (hl : sortedS l = true) (hm : sortedS m = true) (hp : l.Perm m) : l = m :=
  hp.eq_of_pairwise (fun a b _ _ h k => leS_anti h k) (sorted_pw hl) (sorted_pw hm)
theorem perm_of_mem {l m : List Str} (hl : l.Nodup) (hm : m.Nodup) (h : ∀ x, x ∈ l ↔ x ∈ m) : l.Perm m := (List.perm_ext_iff_of_nodup hl hm).mpr h
theorem sorted_mem {l m : List Str} (hl : sortedS l = true) (hm : sortedS m = true) (nl : l.Nodup) (nm : m.Nodup) (h : ∀ x, x ∈ l ↔ x ∈ m) : l = m := sorted_eq hl hm (perm_of_mem nl nm h)
end Srt

/-! == and != of an own class's instance by its own __eq__, with either answer; == of two dicts of data -/
namespace OwE
open PySem L2 PySem.Spec PySem.W PySem.Calls PyProof.Rows
section
variable {prog : Program} {w : World} {M : Model} {A : Around} {E : Value → Shared → Prop} {s : Shared} {K : PySem.W.Frag} {x C f L : Addr} {ox : Obj} {od : Option Obj} {h₀ : Heap} {m : Str → Option Value} {b tb : Value}
theorem ifBoundB {name : Str} {id : String} {args : List Value} {Q : Option Value → Shared → Prop} (X : K.In s.heap) (I : InstAt s.heap x ox C od) (hs : findIn K (.ref C) name = some (some (.builtin id)))
    (hb : ∀ self, bindSpecial (.builtin id) self = pure (.builtin id, [self])) (h : wpAny M A (call (.builtin id) (.ref x :: args)) (fun v => Q (some v)) E s) : wpAny M A (callSpecialIfBound? (.ref x) name args) Q E s := by
  simp only [callSpecialIfBound?, bindSpecialIfBound?]
  refine wpAny_holding (wpAny_bind (wpAny_bind (wpAny_bind (I.type.here ((looks_findIn X hs).here ?_)))))
  refine wpAny_bind (wpAny_askSetting (wpAny_ite ?_))
  have fin : wpAny M A (call (.builtin id) ([.ref x] ++ args) >>= fun v => pure (some v)) Q E s := wpAny_bind (wpAny_mono h (fun v s' h' => wpAny_pure h') fun _ _ h' => h')
  split
  · exact wpAny_bind ((Looks.of_pure (hb _)).here (wpAny_pure (by exact fin)))
  · exact wpAny_tryCatch (wpAny_bind ((Looks.of_pure (hb _)).here (wpAny_pure (by exact fin))))
open Builtin in
theorem obj_ne {Q : Value → Shared → Prop} (hu : A.in1.units < cLine) (X : K.In s.heap) (I : InstAt s.heap x ox C od) (hm : mroIn K C (.type "object") = some true) (hr : findIn K (.ref C) "__eq__" = some (some (.ref f))) (hf : isFn K (.ref f) = true)
    (h : wpAny (model prog w) A.in1 (call (.ref f) [.ref x, b]) (fun v s' => ∃ r, v = .bool r ∧ Q (.bool (!r)) s') E s) : wpAny (model prog w) A (call (.builtin "object.__ne__") [.ref x, b]) Q E s := by
  refine wpAny_call (codeAny_call_builtin PySem.F.cmp_object.ne.plain PySem.F.cmpEntry_ne (check_slot (i := "object.__ne__") (owner := "object") (n := "__ne__") PySem.F.cmpKind_ne PySem.F.cmpSplit_ne (I.type.andThen (looks_mroIn X hm)) (PySem.F.cmpArgs_ne _ _) ?_))
  unfold Builtin.«object.__ne__»
  refine wpAny_bind (m := slotArgs "__ne__" 1 _) (wpAny_pure ?_)
  refine wpAny_bind (m := cRoomFor _ _) (wpAny_cRoomFor hu ?_)
  refine wpAny_bind (m := callSpecialIfBound? (.ref x) (Str.ofString "__eq__") _) (ifBound_K X I hr hf (wpAny_mono h (fun r s' hq => ?_) fun _ _ y => y))
  obtain ⟨r', rfl, hq⟩ := hq
  exact wpAny_bind (wpAny_truthy_bool (wpAny_pure hq))
theorem cmp_ne {Q : Value → Shared → Prop} (hu : A.units < cLine) (hu1 : A.in1.units < cLine) (F : Fr h₀ L s.heap m) (X₀ : K.In h₀) (I : InstAt s.heap x ox C od) (hb : Looks (model prog w) s.heap (typeOf b) tb) (hn : notFirst K C tb = true)
    (hs : findIn K (.ref C) "__ne__" = some (some (.builtin "object.__ne__"))) (hm : mroIn K C (.type "object") = some true) (hr : findIn K (.ref C) "__eq__" = some (some (.ref f))) (hf : isFn K (.ref f) = true)
    (h : wpAny (model prog w) A.in1 (call (.ref f) [.ref x, b]) (fun v s' => ∃ r, v = .bool r ∧ Q (.bool (!r)) s') E s) : wpAny (model prog w) A (richCompare .NotEq (.ref x) b) Q E s := by
  have X := X₀.keeps F.keep
  have one : wpAny (model prog w) A (tryCompare (.ref x) (cmpInfo .NotEq).2.1 b) (fun r s' => ∃ v, r = some v ∧ Q v s') E s := by
    unfold tryCompare
    refine wpAny_bind (ifBoundB X I hs PySem.F.cmp_object.ne.bind (obj_ne hu1 X I hm hr hf (wpAny_mono h (fun v s' hv => ?_) fun _ _ e => e)))
    obtain ⟨r, rfl, hq⟩ := hv
    exact ⟨r, rfl, wpAny_pure ⟨_, rfl, hq⟩⟩
  unfold richCompare
  simp only [oneThing_ref]
  refine wpAny_holding (wpAny_bind (wpAny_cRoomFor hu ?_))
  refine wpAny_bind (I.type.here (wpAny_bind (hb.here ?_)))
  split
  · rename_i q
    have e : subIn K tb (.ref C) = some false := by
      rcases Bool.or_eq_true_iff.mp hn with e | e
      · rw [beq_iff_eq.mp e] at q; simp at q
      · exact beq_iff_eq.mp e
    refine wpAny_bind ((looks_subIn X e).here ?_)
    simp only [Bool.false_eq_true, if_false]
    refine wpAny_bind (wpAny_mono one (fun r s' z => ?_) fun _ _ e => e)
    obtain ⟨v, rfl, hq⟩ := z
    exact wpAny_pure hq
  · refine wpAny_bind (wpAny_pure ?_)
    simp only [Bool.false_eq_true, if_false]
    refine wpAny_bind (wpAny_mono one (fun r s' z => ?_) fun _ _ e => e)
    obtain ⟨v, rfl, hq⟩ := z
    exact wpAny_pure hq
end
/-- facts of a class with an own __eq__ -/
structure EqC (K : PySem.W.Frag) (C f : Addr) : Prop where
  eq : findIn K (.ref C) "__eq__" = some (some (.ref f))
  ne : findIn K (.ref C) "__ne__" = some (some (.builtin "object.__ne__"))
  fn : isFn K (.ref f) = true
  mro : mroIn K C (.type "object") = some true
  nd : subIn K (.type "dict") (.ref C) = some false
  nn : subIn K (.type "NoneType") (.ref C) = some false
/-- what stands to the right -/
def RHS (C : Addr) (y : V) (H : Hp) : Prop := (∃ b dy gs, y = .ref b ∧ H b = some (.ins C dy gs)) ∨ (∃ b kvs, y = .ref b ∧ H b = some (.dK kvs)) ∨ y = .non
def rOwn (C : Addr) (sp : Sp) (g : Bool → Bool) : R2 := fun x y H Q => ∃ a dx fs, x = .ref a ∧ H a = some (.ins C dx fs) ∧ RHS C y H ∧ sp [.ref a, y] H (fun v H' => ∃ r, v = .bl r ∧ Q (.bl (g r)) H') E0
section
variable {X : Cx} {pins : List (Addr × Obj)} {σ : L2.St} {H : Hp} {s : Shared} {n : Nat} {C f : Addr} {fd : FuncData} {ps : List Str} {sp : Sp}
theorem rhs_look {y : V} {v : Value} (T : EqC X.K C f) (I : Inv X pins σ H s) (r : RelV y v) (h : RHS C y H) : ∃ tb, Looks (model X.prog X.w) s.heap (typeOf v) tb ∧ notFirst X.K C tb = true := by
  rcases h with ⟨b, dy, gs, rfl, hb⟩ | ⟨b, kvs, rfl, hb⟩ | rfl
  · cases r
    obtain ⟨mB, J', _⟩ := ins_get I.hok hb
    obtain ⟨od', J', _⟩ := J'.look
    exact ⟨_, J'.type, by simp [PySem.W.notFirst]⟩
  · cases r
    obtain ⟨z, lo, vs, rel, dd⟩ := dk_rd I.hok (Or.inl hb)
    obtain ⟨o, ho, hc⟩ := (dd.typeIs : s.TypeIs (.ref b) "dict")
    exact ⟨.type "dict", fun A Q E s' k q => wpAny_typeOf (T := "dict") ⟨o, k _ _ ho, hc⟩ q, by simp [PySem.W.notFirst, T.nd]⟩
  · cases r
    exact ⟨.type "NoneType", Looks.of_pure (by rfl), by simp [PySem.W.notFirst, T.nn]⟩
theorem run_own {A : Around} {a : Addr} {y : V} {v : Value} {R : V → Hp → Prop} {Qo : Value → Shared → Prop} (F : FnOk X.prog X.w X.K X.mg X.base CX0 n f fd ps sp) (hb : Binds X.K fd ps []) (sb : Sub X n A) (I : Inv X pins σ H s) (r : RelV y v)
    (hsp : sp [.ref a, y] H R E0) (k : ∀ z H' u s', Inv X pins σ H' s' → RelV z u → R z H' → Qo u s') : wpAny (model X.prog X.w) A (call (.ref f) [.ref a, v]) Qo X.xe s := by
  have e0 : Env0 X.prog X.w X.K X.mg X.base A X.stack s H := by
    have e := I.env0
    exact ⟨by rw [sb.fr]; exact e.frames, e.mod, e.bs, e.bsz, e.funs, e.frf, e.hok, e.bare⟩
  have hl := F.len _ _ _ _ hsp
  have r2 : Vals [V.ref a, y] [Value.ref a, v] := .cons rfl (.cons r .nil)
  refine wpAny_call (codeAny_mono (F.run A X.stack s H ⟨[.ref a, v], []⟩ [.ref a, v] [.ref a, y] _ E0 sb.room e0 (by
    have := hb s [.ref a, v] I.kIn (by simpa using hl)
    simpa using this) r2 hsp) fun r s' hq => ?_)
  cases r with
  | error e => exact False.elim hq
  | ok fl =>
    cases fl with
    | ret u =>
      obtain ⟨z, H', I', rz, hz⟩ := I.after hq
      exact k z H' u s' I' rz hz
    | next => exact False.elim hq
    | brk => exact False.elim hq
    | cont => exact False.elim hq
theorem op_eqO (T : EqC X.K C f) (F : FnOk X.prog X.w X.K X.mg X.base CX0 n f fd ps sp) (hb : Binds X.K fd ps []) (hr : Room n X.A) : OpR X (compareOp .Eq) (rOwn C sp id) := by
  intro pins s σ H x y v u Q I rx ry hq
  obtain ⟨a, dx, fs, rfl, ha, hy, hsp⟩ := hq
  cases rx
  obtain ⟨mA, J, _⟩ := ins_get I.hok ha
  obtain ⟨od, J, _⟩ := J.look
  obtain ⟨m, hF⟩ := I.fr
  obtain ⟨tb, hl, hn⟩ := rhs_look T I ry hy
  show wpAny (model X.prog X.w) X.A (richCompare .Eq (.ref a) u) (EP X pins σ Q) X.xe s
  refine PySem.W.cmp_K (op := .Eq) (tb := tb) hr.units0 hF I.ok.mod.kin J hl hn T.eq T.fn ?_
  refine run_own F hb ⟨hr, rfl⟩ I ry hsp fun z H' u' s' I' rz hz => ?_
  obtain ⟨b, rfl, q⟩ := hz
  cases rz
  exact ⟨.bl b, H', I', rfl, q⟩
theorem op_neO (T : EqC X.K C f) (F : FnOk X.prog X.w X.K X.mg X.base CX0 n f fd ps sp) (hb : Binds X.K fd ps []) (hr : Room (n + 1) X.A) : OpR X (compareOp .NotEq) (rOwn C sp not) := by
  intro pins s σ H x y v u Q I rx ry hq
  obtain ⟨a, dx, fs, rfl, ha, hy, hsp⟩ := hq
  cases rx
  obtain ⟨mA, J, _⟩ := ins_get I.hok ha
  obtain ⟨od, J, _⟩ := J.look
  obtain ⟨m, hF⟩ := I.fr
  obtain ⟨tb, hl, hn⟩ := rhs_look T I ry hy
  have sb : Sub X (n + 1) X.A := ⟨hr, rfl⟩
  show wpAny (model X.prog X.w) X.A (richCompare .NotEq (.ref a) u) (EP X pins σ Q) X.xe s
  refine cmp_ne (tb := tb) hr.units0 sb.in1.room.units0 hF I.ok.mod.kin J hl hn T.ne T.mro T.eq T.fn ?_
  refine run_own F hb sb.in1 I ry hsp fun z H' u' s' I' rz hz => ?_
  obtain ⟨b, rfl, q⟩ := hz
  cases rz
  exact ⟨b, rfl, ⟨.bl (!b), H', I', rfl, q⟩⟩
end
/-! ### two dicts whose values are data -/
def rEqDD (K : PySem.W.Frag) : R2 := fun x y H Q => ∃ (a b : Addr) (ka kb : List (Key × V)) (da db : Key → PyData), x = .ref a ∧ y = .ref b ∧ H a = some (.dK ka) ∧ H b = some (.dK kb) ∧
  (∀ k v, (k, v) ∈ ka → Dp K H v (da k) ∧ (da k).canLay0 = true ∧ (da k).depth ≤ 20) ∧ (∀ k v, valV kb k = some v → Dp K H v (db k) ∧ (db k).canLay0 = true ∧ (db k).depth ≤ 20) ∧
  Q (.bl (ka.length == kb.length && ka.all fun p => (valV kb p.1).isSome && PyData.eqv (da p.1) (db p.1))) H
theorem kv_mem {kvs : List (Key × V)} {vs : List (Key × Value)} (r : KV kvs vs) {k : Key} {u : Value} (h : (k, u) ∈ vs) : ∃ v, (k, v) ∈ kvs ∧ RelV v u := by
  unfold KV at r
  induction r with
  | nil => cases h
  | cons h1 _ ih =>
    rcases List.mem_cons.mp h with e | h
    · subst e
      refine ⟨_, List.mem_cons.mpr (.inl ?_), h1.2⟩
      exact Prod.ext h1.1.symm rfl
    · obtain ⟨v, h2, h3⟩ := ih h
      exact ⟨v, List.mem_cons_of_mem _ h2, h3⟩
theorem op_eqDD {X : Cx} (hu : X.A.units + 64 < cLine) : OpR X (compareOp .Eq) (rEqDD X.K) := by
  intro pins s σ H x y v u Q I rx ry hq
  obtain ⟨a, b, ka, kb, da, db, rfl, rfl, ha, hb, h1, h2, q⟩ := hq
  cases rx
  cases ry
  obtain ⟨z, lo, va, ra, dda⟩ := dk_rd I.hok (Or.inl ha)
  obtain ⟨z', lo', vb, rb, ddb⟩ := dk_rd I.hok (Or.inl hb)
  refine PySem.W.eq_dictsT (n := 60) (e := fun k => PyData.eqv (da k) (db k)) lo lo' dda ddb (fun k v y hv hy => ?_) (by omega) ?_
  · obtain ⟨v', hv', rv⟩ := kv_mem ra hv
    obtain ⟨d1, c1, p1⟩ := h1 k v' hv'
    have rk := rb.val k
    rw [hy] at rk
    cases e : valV kb k with
    | none => rw [e] at rk; exact rk.elim
    | some y' =>
      rw [e] at rk
      obtain ⟨d2, c2, p2⟩ := h2 k y' e
      obtain ⟨as, r1⟩ := Dp.reads I _ _ _ d1 rv
      obtain ⟨bs, r2⟩ := Dp.reads I _ _ _ d2 rk
      refine .leaf fun A hA => ?_
      exact SeqAt.eqAt_reads _ _ A s _ _ _ _ r1 r2 c1 c2 (by omega)
  · refine ⟨.bl _, H, I, rfl, ?_⟩
    have e1 : va.length = ka.length := ra.length.symm
    have e2 : vb.length = kb.length := rb.length.symm
    have e3 : (va.all fun p => (valueAt vb p.1).isSome && PyData.eqv (da p.1) (db p.1)) = (ka.all fun p => (valV kb p.1).isSome && PyData.eqv (da p.1) (db p.1)) := by
      have g : ∀ (l : List (Key × V)) (m : List (Key × Value)), l.map (·.1) = m.map (·.1) → (m.all fun p => (valueAt vb p.1).isSome && PyData.eqv (da p.1) (db p.1)) = (l.all fun p => (valV kb p.1).isSome && PyData.eqv (da p.1) (db p.1)) := fun l => by
        induction l with
        | nil =>
          intro m hm
          cases m with
          | nil => rfl
          | cons => cases hm
        | cons p r ih =>
          intro m hm
          cases m with
          | nil => cases hm
          | cons p' m =>
            have hm1 : p.1 = p'.1 := (List.cons.inj hm).1
            rw [List.all_cons, List.all_cons, ih m (List.cons.inj hm).2, ← hm1, (rb.val p.1).isSome_eq]
      exact g ka va ra.keys
    rw [e1, e2, e3]
    exact q
end OwE

namespace Lg
open PySem L2
theorem ifT {c A B : Prop} [Decidable c] (hc : c) (h : A) : if decide c = true then A else B := by
  rw [decide_eq_true hc]
  exact iteT h
theorem ifF {c A B : Prop} [Decidable c] (hc : ¬ c) (h : B) : if decide c = true then A else B := by
  rw [decide_eq_false hc]
  exact iteF h
theorem ifNT {c A B : Prop} [Decidable c] (hc : ¬ c) (h : A) : if (!decide c) = true then A else B := by
  rw [decide_eq_false hc]
  exact iteT h
theorem ifB {b c : Bool} {A B : Prop} (e : b = c) (h : if c = true then A else B) : if b = true then A else B := by
  rw [e]
  exact h
/-! ### the heap grows -/
theorem same_new {H : Hp} {p : Addr} {o : HO} (h : H p = none) : Same H (upd H p o) := fun b u e => by
  rw [upd_ne (ne_of_none e h)]
  exact e
theorem sqt_same {K : PySem.W.Frag} {H H' : Hp} {a : Addr} {xs : List V} (e : Same H H') (h : SqT K H a xs) : SqT K H' a xs := by
  rcases h with h | h
  · rcases h with h | ⟨o, h⟩
    · exact Or.inl (Or.inl (e a _ h))
    · exact Or.inl (Or.inr ⟨o, e a _ h⟩)
  · exact Or.inr h
/-! ### readings, opened one statement at a time -/
theorem st_asg {te : TE} {i : Nat} {u : TS} {D : Ends} {σ : St} {H : Hp} (h : te σ H fun x H1 => u D (σ.set i (some x)) H1) : tSeq (tAsg te (gName i)) u D σ H := h
theorem st_asgl {te : TE} {i : Nat} {D : Ends} {σ : St} {H : Hp} (h : te σ H fun x H1 => D.nx (σ.set i (some x)) H1) : tAsg te (gName i) D σ H := h
theorem st_nx {D : Ends} {σ : St} {H : Hp} (h : D.nx σ H) : tNext D σ H := h
theorem st_asgG {te : TE} {g : TG} {u : TS} {D : Ends} {σ : St} {H : Hp} (h : te σ H fun x H1 => g x σ H1 fun σ' H' => u D σ' H') : tSeq (tAsg te g) u D σ H := h
/-- an if whose test fails, the heap behind it as W says -/
theorem st_ifW (W : Hp → Prop) {c : TT} {t u : TS} {D : Ends} {σ : St} {H : Hp} (h : ∀ R : Hp → Prop, (∀ H1, W H1 → R H1) → c σ H fun b H1 => if b = true then t { D with nx := u D } σ H1 else R H1) (h2 : ∀ H1, W H1 → u D σ H1) : tSeq (tIfS c t tNext) u D σ H := h _ h2
theorem st_dput {td ty tv : TE} {u : TS} {D : Ends} {σ : St} {H : Hp} (h : tv σ H fun v H1 => td σ H1 fun x H2 => ty σ H2 fun y H3 => ∃ a H4, x = .ref a ∧ DPut H3 a y v H4 ∧ u D σ H4) : tSeq (sDPut td ty tv) u D σ H := h
theorem st_drop {te : TE} {u : TS} {D : Ends} {σ : St} {H : Hp} (h : te σ H fun _ H1 => u D σ H1) : tSeq (tDrop te) u D σ H := h
theorem st_ret {te : TE} {D : Ends} {σ : St} {H : Hp} (h : te σ H D.rt) : tRet te D σ H := h
theorem st_if {c : TT} {t e u : TS} {D : Ends} {σ : St} {H : Hp} (h : c σ H fun b H1 => if b = true then t { D with nx := u D } σ H1 else e { D with nx := u D } σ H1) : tSeq (tIfS c t e) u D σ H := h
theorem st_ifl {c : TT} {t e : TS} {D : Ends} {σ : St} {H : Hp} (h : c σ H fun b H1 => if b = true then t D σ H1 else e D σ H1) : tIfS c t e D σ H := h
theorem yes_then {te : TE} {σ : St} {H : Hp} {Qy : VK} {B : Hp → Prop} (h : te σ H Qy) : tYes σ H (fun b H3 => if b = true then te σ H3 Qy else B H3) := by
  show if true = true then te σ H Qy else B H
  exact iteT h
/-- what a comprehension has made so far stands at D; all else that stood ahead stands -/
def AccP (H1 : Hp) (D : Addr) (R : Nat → List V → Hp → Prop) : Nat → Hp → Prop := fun i H => Same H1 H ∧ ∃ acc, H D = some (.lst acc) ∧ R i acc H
theorem acc0 {H1 : Hp} {D : Addr} {R : Nat → List V → Hp → Prop} (hD : H1 D = none) (h : R 0 [] (upd H1 D (.lst []))) : AccP H1 D R 0 (upd H1 D (.lst [])) := ⟨same_new hD, [], upd_same, h⟩
theorem acc_put {H1 H4 : Hp} {D : Addr} {R : Nat → List V → Hp → Prop} {i : Nat} {acc : List V} {y : V} (hD : H1 D = none) (s : Same H1 H4) (h : H4 D = some (.lst acc)) (hl : acc.length < sizeLine) (r : R (i + 1) (acc ++ [y]) (upd H4 D (.lst (acc ++ [y])))) :
    ∃ acc, H4 D = some (.lst acc) ∧ acc.length < sizeLine ∧ AccP H1 D R (i + 1) (upd H4 D (.lst (acc ++ [y]))) :=
  ⟨acc, h, hl, fun b u e => by rw [upd_ne (fun z => by rw [z, hD] at e; cases e)]; exact s b u e, _, upd_same, r⟩
theorem paired_snoc {α β : Type} {R : α → β → Prop} : ∀ {ys : List β} {xs : List α} {e : β}, Paired R xs (ys ++ [e]) → ∃ xs' x, xs = xs' ++ [x] ∧ Paired R xs' ys ∧ R x e
  | [], _, _, .cons h .nil => ⟨[], _, rfl, .nil, h⟩
  | _ :: ys, _, _, .cons h hs => by
    obtain ⟨xs', x, h1, h2, h3⟩ := paired_snoc (ys := ys) hs
    exact ⟨_ :: xs', x, by rw [h1]; rfl, .cons h h2, h3⟩
theorem valV_drop {κ : Type} [DecidableEq κ] (k j : κ) : ∀ kvs : List (κ × V), valV (dropK kvs k) j = if j = k then none else valV kvs j
  | [] => by
    rw [show dropK ([] : List (κ × V)) k = [] from rfl, valV_nil]
    split <;> rfl
  | p :: r => by
    have ih := valV_drop k j r
    by_cases e : p.1 = k
    · rw [dropK_pos e, ih]
      by_cases e2 : j = k
      · rw [if_pos e2, if_pos e2]
      · rw [if_neg e2, if_neg e2, valV_neg fun z => e2 (z.symm.trans e)]
    · rw [dropK_neg e]
      by_cases e3 : p.1 = j
      · rw [valV_pos e3, valV_pos e3, if_neg fun z => e (e3.trans z)]
      · rw [valV_neg e3, valV_neg e3, ih]
/-! ### facts of the module's names -/
abbrev LET : Str := "abcdefghijklmnopqrstuvwxyz"
abbrev DIG : Str := "0123456789"
structure Gb (K : PySem.W.Frag) (mg : Str → Option Value) : Prop where
  m_isinstance : mg "isinstance" = none
  m_len : mg "len" = none
  m_all : mg "all" = none
  m_sum : mg "sum" = none
  m_sorted : mg "sorted" = none
  m_repr : mg "repr" = none
  m_enumerate : mg "enumerate" = none
  m_tuple : mg "tuple" = none
  m_dict : mg "dict" = none
  m_list : mg "list" = none
  m_range : mg "range" = none
  m_int : mg "int" = none
  m_str : mg "str" = none
  m_bool : mg "bool" = none
  m_set : mg "set" = none
  c_name : ∃ t, mg "MOST_NAME" = some (.int 10 t)
  c_let : ∃ t, mg "LETTERS" = some (.str LET t)
  c_thr : ∃ t, mg "MOST_THREADS" = some (.int 5 t)
  c_evs : ∃ t, mg "MOST_EVENTS" = some (.int 40 t)
  g_cell : mg "CELL_WORDS" = some (.ref (He.ga K "CELL_WORDS"))
  g_lock : mg "LOCK_WORDS" = some (.ref (He.ga K "LOCK_WORDS"))
  g_cnt : mg "COUNTER_WORDS" = some (.ref (He.ga K "COUNTER_WORDS"))
  g_thr : mg "THREAD_WORDS" = some (.ref (He.ga K "THREAD_WORDS"))
  g_lone : mg "LONE_WORDS" = some (.ref (He.ga K "LONE_WORDS"))
  t_cell : ∀ H, SqT K H (He.ga K "CELL_WORDS") [.str "read", .str "write", .str "swap"]
  t_lock : ∀ H, SqT K H (He.ga K "LOCK_WORDS") [.str "lock", .str "unlock", .str "share", .str "unshare"]
  t_cnt : ∀ H, SqT K H (He.ga K "COUNTER_WORDS") [.str "up", .str "down"]
  t_thr : ∀ H, SqT K H (He.ga K "THREAD_WORDS") [.str "fork", .str "join"]
  t_lone : ∀ H, SqT K H (He.ga K "LONE_WORDS") [.str "step", .str "end"]
/-- a def that is called by its name -/
structure Cal (P : Program) (w : World) (K : PySem.W.Frag) (mg : Str → Option Value) (base : Heap) (CX : CXT) (k : Nat) (x : Str) (f : Addr) (fd : FuncData) (ps : List Str) (sp : Sp) : Prop where
  ok : FnOk P w K mg base CX k f fd ps sp
  mg : mg x = some (.ref f)
  kp : PySem.W.keepIn K (.ref f) = true
  bd : Binds K fd ps []
/-! ### names -/
def isLet (c : Nat) : Bool := decide (c ∈ LET.cps.toList)
def isSgn (c : Nat) : Bool := isLet c || decide (c ∈ DIG.cps.toList)
/-- a name: 1 to 10 signs, a letter ahead -/
def nameOk (x : Str) : Bool := match x.cps.toList with
  | [] => false
  | c :: r => decide (r.length < 10) && isLet c && (c :: r).all isSgn
theorem str_len (x : Str) : x.length = x.cps.toList.length := by
  show x.cps.size = _
  simp
end Lg

namespace Lg
open PySem L2 TL
def top (i : Nat) : Stmt := PySem.Challenge.pw_onerun_k01_logs_read.main.body.getD i (.Pass ⟨0, 0, 0, 0⟩)
theorem ty_tup {K : PySem.W.Frag} {H : Hp} {t : Addr} {xs : List V} (h : SqT K H t xs) : TyX K H (.ref t) (.type "tuple") := by
  rcases h with (h | ⟨o, h⟩) | ⟨o, its, n, h1, h2, _⟩
  · exact .base (.tup h)
  · exact .fTuple h
  · exact .kTuple h1 h2
theorem ty_str {K : PySem.W.Frag} {H : Hp} (x : Str) : TyX K H (.str x) (.type "str") := .base (.str x)
theorem all_flat : ∀ l : List Str, (l.map V.str).all flatV = true
  | [] => rfl
  | _ :: l => by
    rw [List.map_cons, List.all_cons, all_flat l]
    rfl
theorem in_strs (x : Str) : ∀ l : List Str, inV (.str x) (l.map V.str) = decide (x ∈ l)
  | [] => by simp [inV]
  | y :: l => by
    have h := in_strs x l
    unfold inV at h ⊢
    rw [List.map_cons, List.any_cons, h]
    by_cases e : y = x
    · subst e
      simp [eqV]
    · have e2 : eqV (V.str y) (V.str x) = false := beq_eq_false_iff_ne.mpr e
      rw [e2, Bool.false_or]
      simp [show ¬ x = y from fun z => e z.symm]
section
variable {P : Program} {w : World} {K : PySem.W.Frag} {mg : Str → Option Value} {base : Heap} {f : Addr} {fd : FuncData}
/-! ### is_integer -/
abbrev s_is_integer : Stmt := top 13
theorem sc_is_integer : FnScope ["thing"] ["thing"] (defScope s_is_integer) := ⟨rfl, rfl, rfl, by decide +kernel, rfl, by decide +kernel, by decide +kernel⟩
def tyNames : List String := ["int", "bool", "str", "NoneType", "tuple", "list", "dict"]
def spInt (K : PySem.W.Frag) : Sp := fun vs H Q _ => ∃ (v : V) (N : String), vs = [v] ∧ TyX K H v (.type N) ∧ N ∈ tyNames ∧ Q (.bl (N == "int")) H
theorem ok_is_integer (F : Fun K "is_integer" "is_integer" s_is_integer f fd) (T : Gb K mg) : FnOk P w K mg base CX0 1 f fd ["thing"] (spInt K) := by
  refine F.ok sc_is_integer (fun vs H Q E h => ?_) (fun cdv A outer s H vs Q E hr h => ?_)
  · obtain ⟨v, N, rfl, _⟩ := h
    rfl
  · obtain ⟨v, N, rfl, hty, hN, k⟩ := h
    refine ⟨_, pss_one (ps_ret (pe_and (pe_callB call_isi (by rfl) T.m_isinstance PyProof.Rows.boot_isinstance (pa_cons (pv 0) (pa_cons (pe_bltn (v := .ty "int") (by rfl) T.m_int (by decide +kernel) rfl) pa_nil))) (pe_one (pe_not (pe_callB call_isi (by rfl) T.m_isinstance PyProof.Rows.boot_isinstance (pa_cons (pv 0) (pa_cons (pe_bltn (v := .ty "bool") (by rfl) T.m_bool (by decide +kernel) rfl) pa_nil))))))), ?_⟩
    simp only [tyNames, List.mem_cons, List.mem_nil_iff, or_false] at hN
    rcases hN with rfl | rfl | rfl | rfl | rfl | rfl | rfl
    · exact ⟨_, rfl, _, _, _, _, true, rfl, .ty _, hty, kit_ty (by decide +kernel), true, rfl, _, rfl, _, _, _, _, false, rfl, .ty _, hty, kit_ty (by decide +kernel), false, rfl, k⟩
    · exact ⟨_, rfl, _, _, _, _, true, rfl, .ty _, hty, kit_ty (by decide +kernel), true, rfl, _, rfl, _, _, _, _, true, rfl, .ty _, hty, kit_ty (by decide +kernel), true, rfl, k⟩
    all_goals exact ⟨_, rfl, _, _, _, _, false, rfl, .ty _, hty, kit_ty (by decide +kernel), false, rfl, k⟩
/-! ### is_name -/
abbrev s_is_name : Stmt := top 14
theorem sc_is_name : FnScope ["thing", "sign"] ["thing"] (defScope s_is_name) := ⟨rfl, rfl, rfl, by decide +kernel, rfl, by decide +kernel, by decide +kernel⟩
def spName : Sp := fun vs H Q _ => ∃ (x : Str), vs = [.str x] ∧ x.length ≤ 1000 ∧ ∀ H', Same H H' → Q (.bl (nameOk x)) H'
theorem ok_is_name (F : Fun K "is_name" "is_name" s_is_name f fd) (T : Gb K mg) : FnOk P w K mg base CX0 1 f fd ["thing"] spName := by
  refine F.ok sc_is_name (fun vs H Q E h => ?_) (fun cdv A outer s H vs Q E hr h => ?_)
  · obtain ⟨x, rfl, _⟩ := h
    rfl
  · obtain ⟨x, rfl, hl, k⟩ := h
    obtain ⟨tMN, hMN⟩ := T.c_name
    obtain ⟨tLE, hLE⟩ := T.c_let
    refine ⟨_, pss_cons (ps_if (PW.pt (pw_or (pt_not (pt_val (pe_callB call_isi (by rfl) T.m_isinstance PyProof.Rows.boot_isinstance (pa_cons (pv 0) (pa_cons (pe_bltn (v := .ty "str") (by rfl) T.m_str (by decide +kernel) rfl) pa_nil))))) (pw_or (pt_not (pt_chain op_le op_le pe_int (pe_callB call_len_str (by rfl) T.m_len PySem.boot_len (pa_cons (pv 0) pa_nil)) (pe_glob (v := .int 10) (by rfl) hMN ⟨tMN, rfl⟩))) (pw_or1 (pt_cmpR op_notIn_sign (pe_ix ix_str (pv 0) pe_int (fun _ _ => rfl)) (pe_glob (v := .str LET) (by rfl) hLE ⟨tLE, rfl⟩) rfl))))) (pss_one (ps_ret pe_bl)) (pss_nil))
    (pss_one (ps_ret (pe_callB (cr_all rfl) (by rfl) T.m_all (by decide +kernel) (pa_cons (pe_lc (own := [("sign", 1)]) rfl sc_is_name.nd (pi_str (pv 0)) (blkOk_by (own := [("sign", 1)]) (N := ["thing", "sign"]) (sc := defScope s_is_name) (by decide +kernel)) (fun _ _ _ _ _ => (pg_name (i := 1) sc_is_name.nd rfl (Or.inl rfl))) (fun _ _ _ _ _ => pts_nil) (fun _ _ _ _ _ => (pe_or (pe_cmpR op_in_sign (pv 1) (pe_glob (v := .str LET) (by rfl) hLE ⟨tLE, rfl⟩) rfl) (pe_one (pe_cmpR op_in_sign (pv 1) pe_str rfl))))) pa_nil)))), ?_⟩
    have hlz : x.length ≤ sizeLine := Nat.le_trans hl (by decide)
    refine st_if ?_
    refine ⟨_, rfl, _, _, _, _, true, rfl, .ty _, ty_str x, kit_ty (by decide +kernel), true, rfl, iteF ?_⟩
    refine ⟨_, rfl, x, rfl, hlz, 1, _, rfl, rfl, _, rfl, ?_⟩
    unfold nameOk at k
    cases hx : x.cps.toList with
    | nil =>
      have h0 : x.length = 0 := by rw [str_len, hx]; rfl
      rw [hx] at k
      rw [h0]
      exact iteF ⟨false, rfl, iteT (iteT (k H (Same.refl H)))⟩
    | cons c r =>
      rw [hx] at k
      have h1 : x.length = r.length + 1 := by rw [str_len, hx]; rfl
      rw [h1]
      refine ite2 (fun _ => ?_) (fun h => absurd (decide_eq_true (by omega)) h)
      refine ⟨_, 10, rfl, rfl, _, rfl, ?_⟩
      by_cases h10 : r.length < 10
      · rw [decide_eq_true (show ((r.length + 1 : Nat) : Int) ≤ 10 by omega)]
        refine iteF ?_
        refine ⟨_, rfl, x, 0, c, rfl, rfl, hlz, (by rw [hx]; exact atI_nat (j := 0) rfl), c, LET, rfl, rfl, _, rfl, ?_⟩
        by_cases hL : c ∈ LET.cps.toList
        · rw [decide_eq_true hL]
          refine iteF ?_
          refine st_nx ?_
          dsimp only
          refine st_ret ?_
          refine ⟨_, rfl, x, rfl, fun D hD => lc_it walk_str (AccP H D fun i acc _ => acc = ((x.cps.toList.take i).map fun c => V.bl (isSgn c))) (acc0 hD (by simp)) (fun _ _ _ _ => trivial) ?_ ?_⟩
          · rintro i v H2 H' hi ⟨s2, _, hD2, rfl⟩ ⟨rfl, c', hc', rfl⟩
            have hc2 : x.cps.toList[i]? = some c' := by rw [Array.getElem?_toList]; exact hc'
            refine ⟨rfl, ?_⟩
            refine yes_then ?_
            refine ⟨_, rfl, c', LET, rfl, rfl, _, rfl, ?_⟩
            have hl2 : ((x.cps.toList.take i).map fun c => V.bl (isSgn c)).length < sizeLine := by
              rw [List.length_map]
              refine Nat.lt_of_le_of_lt (List.length_take_le _ _) ?_
              have : i < 1000 := Nat.lt_of_lt_of_le hi hl
              exact Nat.lt_of_lt_of_le this (by decide)
            have hR : ∀ b, b = isSgn c' → ((x.cps.toList.take i).map fun c => V.bl (isSgn c)) ++ [V.bl b] = (x.cps.toList.take (i + 1)).map fun c => V.bl (isSgn c) := fun b hb => by
              rw [List.take_add_one, hc2, hb]
              simp
            by_cases hc3 : c' ∈ LET.cps.toList
            · rw [decide_eq_true hc3]
              exact iteT (acc_put hD s2 hD2 hl2 (hR _ (by simp [isSgn, isLet, hc3])))
            · rw [decide_eq_false hc3]
              exact iteF ⟨_, rfl, c', DIG, rfl, rfl, acc_put hD s2 hD2 hl2 (hR _ (by simp [isSgn, isLet, hc3]))⟩
          · rintro H2 ⟨s2, _, hD2, rfl⟩
            have e : x.cps.toList.take x.cps.size = x.cps.toList := List.take_of_length_le (by simp)
            refine ⟨D, x.cps.toList.map isSgn, rfl, SqL.of ?_, ?_⟩
            · rw [hD2, e, List.map_map]
              rfl
            · have e2 : (decide (r.length < 10) && isLet c && (c :: r).all isSgn) = (x.cps.toList.map isSgn).all id := by
                rw [hx, decide_eq_true h10]
                simp [isLet, hL]
              have k2 := k H2 s2
              dsimp only at k2
              rw [e2] at k2
              exact k2
        · rw [decide_eq_false hL]
          refine iteT ?_
          have k2 := k H (Same.refl H)
          dsimp only at k2
          rw [show isLet c = false by simp [isLet, hL], Bool.and_false, Bool.false_and] at k2
          exact k2
      · rw [decide_eq_false (show ¬ ((r.length + 1 : Nat) : Int) ≤ 10 by omega)]
        refine iteT ?_
        refine iteT ?_
        have k2 := k H (Same.refl H)
        dsimp only at k2
        rw [decide_eq_false h10, Bool.false_and, Bool.false_and] at k2
        exact k2
/-! ### kind_of -/
abbrev s_kind_of : Stmt := top 15
theorem sc_kind_of : FnScope ["word"] ["word"] (defScope s_kind_of) := ⟨rfl, rfl, rfl, by decide +kernel, rfl, by decide +kernel, by decide +kernel⟩
abbrev wCell : List Str := ["read", "write", "swap"]
abbrev wLock : List Str := ["lock", "unlock", "share", "unshare"]
abbrev wCnt : List Str := ["up", "down"]
abbrev wThr : List Str := ["fork", "join"]
abbrev wLone : List Str := ["step", "end"]
inductive Kd | cell | lock | counter | thread | lone
def Kd.str : Kd → Str
  | .cell => "cell" | .lock => "lock" | .counter => "counter" | .thread => "thread" | .lone => ""
/-- the kind of a word's object -/
def kdOf (w : Str) : Kd := if w ∈ wCell then .cell else if w ∈ wLock then .lock else if w ∈ wCnt then .counter else if w ∈ wThr then .thread else .lone
def spKind : Sp := fun vs H Q _ => ∃ (x : Str), vs = [.str x] ∧ Q (.str (kdOf x).str) H
theorem ok_kind_of (F : Fun K "kind_of" "kind_of" s_kind_of f fd) (T : Gb K mg) : FnOk P w K mg base CX0 1 f fd ["word"] spKind := by
  refine F.ok sc_kind_of (fun vs H Q E h => ?_) (fun cdv A outer s H vs Q E hr h => ?_)
  · obtain ⟨x, rfl, _⟩ := h
    rfl
  · obtain ⟨x, rfl, k⟩ := h
    refine ⟨_, pss_cons (ps_if (pt_cmpR op_in_seq (pv 0) (pe_glob (v := .ref (He.ga K "CELL_WORDS")) (by rfl) T.g_cell rfl) rfl) (pss_one (ps_ret pe_str)) (pss_nil))
    (pss_cons (ps_if (pt_cmpR op_in_seq (pv 0) (pe_glob (v := .ref (He.ga K "LOCK_WORDS")) (by rfl) T.g_lock rfl) rfl) (pss_one (ps_ret pe_str)) (pss_nil))
    (pss_cons (ps_if (pt_cmpR op_in_seq (pv 0) (pe_glob (v := .ref (He.ga K "COUNTER_WORDS")) (by rfl) T.g_cnt rfl) rfl) (pss_one (ps_ret pe_str)) (pss_nil))
    (pss_one (ps_ret (pe_ifExp (pt_cmpR op_in_seq (pv 0) (pe_glob (v := .ref (He.ga K "THREAD_WORDS")) (by rfl) T.g_thr rfl) rfl) pe_str pe_str))))), ?_⟩
    have hf : ∀ l : List Str, (l.map V.str).all flatV = true := all_flat
    unfold kdOf at k
    refine st_if ?_
    refine ⟨_, rfl, _, wCell.map V.str, rfl, .inr (T.t_cell H), rfl, rfl, _, rfl, ?_⟩
    dsimp only
    rw [if_neg Bool.false_ne_true, in_strs]
    refine ite2 (fun h => ?_) (fun h => ?_)
    · rw [if_pos (of_decide_eq_true h)] at k
      exact k
    rw [if_neg (fun z => h (decide_eq_true z))] at k
    refine st_nx ?_
    dsimp only
    refine st_if ?_
    refine ⟨_, rfl, _, wLock.map V.str, rfl, .inr (T.t_lock H), rfl, rfl, _, rfl, ?_⟩
    rw [if_neg Bool.false_ne_true, in_strs]
    refine ite2 (fun h => ?_) (fun h => ?_)
    · rw [if_pos (of_decide_eq_true h)] at k
      exact k
    rw [if_neg (fun z => h (decide_eq_true z))] at k
    refine st_nx ?_
    dsimp only
    refine st_if ?_
    refine ⟨_, rfl, _, wCnt.map V.str, rfl, .inr (T.t_cnt H), rfl, rfl, _, rfl, ?_⟩
    rw [if_neg Bool.false_ne_true, in_strs]
    refine ite2 (fun h => ?_) (fun h => ?_)
    · rw [if_pos (of_decide_eq_true h)] at k
      exact k
    rw [if_neg (fun z => h (decide_eq_true z))] at k
    refine st_nx ?_
    dsimp only
    refine ⟨_, rfl, _, wThr.map V.str, rfl, .inr (T.t_thr H), rfl, rfl, _, rfl, ?_⟩
    rw [if_neg Bool.false_ne_true, in_strs]
    refine ite2 (fun h => ?_) (fun h => ?_)
    · rw [if_pos (of_decide_eq_true h)] at k
      exact k
    · rw [if_neg (fun z => h (decide_eq_true z))] at k
      exact k
end
end Lg

namespace Lg
open PySem L2 TL
abbrev C0 (P : Program) (w : World) (K : PySem.W.Frag) (mg : Str → Option Value) (base : Heap) (k : Nat) (x : Str) (ps : List Str) (sp : Sp) : Prop := ∃ f fd, Cal P w K mg base CX0 k x f fd ps sp
/-! ### events -/
inductive Vl | non | one (i : Int) | two (i j : Int)
structure Ev where
  w : Str
  o : Option Str
  z : Vl
def oV : Option Str → V
  | none => .non
  | some x => .str x
def VlAt (K : PySem.W.Frag) (H : Hp) (v : V) : Vl → Prop
  | .non => v = .non
  | .one i => v = .int i
  | .two i j => ∃ t, v = .ref t ∧ SqT K H t [.int i, .int j]
def EvAt (K : PySem.W.Frag) (H : Hp) (v : V) (e : Ev) : Prop := ∃ t z, v = .ref t ∧ SqT K H t [.str e.w, oV e.o, z] ∧ VlAt K H z e.z
theorem VlAt.same {K : PySem.W.Frag} {H H' : Hp} {v : V} {z : Vl} (s : Same H H') (h : VlAt K H v z) : VlAt K H' v z := by
  cases z with
  | non => exact h
  | one i => exact h
  | two i j =>
    obtain ⟨t, e, h⟩ := h
    exact ⟨t, e, sqt_same s h⟩
theorem EvAt.same {K : PySem.W.Frag} {H H' : Hp} {v : V} {e : Ev} (s : Same H H') (h : EvAt K H v e) : EvAt K H' v e := by
  obtain ⟨t, z, h1, h2, h3⟩ := h
  exact ⟨t, z, h1, sqt_same s h2, h3.same s⟩
def Ev.ok (e : Ev) : Prop := match kdOf e.w with
  | .lone => e.w ∈ wLone ∧ e.o = none ∧ e.z = .non
  | .cell => (∃ x, e.o = some x ∧ nameOk x = true) ∧ (if e.w = "swap" then ∃ i j, e.z = .two i j else ∃ i, e.z = .one i)
  | _ => (∃ x, e.o = some x ∧ nameOk x = true) ∧ e.z = .non
theorem name_len {x : Str} (h : nameOk x = true) : x.length ≤ 10 := by
  unfold nameOk at h
  rw [str_len]
  cases hx : x.cps.toList with
  | nil => simp
  | cons c r =>
    rw [hx] at h
    simp at h
    simp
    omega
theorem name_len' {x : Str} (h : nameOk x = true) : x.length ≤ 1000 := Nat.le_trans (name_len h) (by decide)
theorem kd_str {a b : Kd} (h : a.str = b.str) : a = b := by
  cases a <;> cases b <;> first | rfl | (exact absurd h (by decide +kernel))
theorem kd_lone {x : Str} (h : x ∈ wLone) : kdOf x = .lone := by
  simp only [wLone, List.mem_cons, List.mem_nil_iff, or_false] at h
  rcases h with rfl | rfl <;> rfl
theorem kd_cell {x : Str} (h : kdOf x = .cell) : x ∈ wCell := by
  unfold kdOf at h
  split at h
  · assumption
  · split at h
    · cases h
    · split at h
      · cases h
      · split at h <;> cases h
section
variable {P : Program} {w : World} {K : PySem.W.Frag} {mg : Str → Option Value} {base : Heap} {f : Addr} {fd : FuncData}
abbrev s_is_event : Stmt := top 16
theorem sc_is_event : FnScope ["thing", "word", "name", "value"] ["thing"] (defScope s_is_event) := ⟨rfl, rfl, rfl, by decide +kernel, rfl, by decide +kernel, by decide +kernel⟩
def spEvent (K : PySem.W.Frag) : Sp := fun vs H Q _ => ∃ (v : V) (e : Ev), vs = [v] ∧ EvAt K H v e ∧ e.ok ∧ ∀ H', Same H H' → Q (.bl true) H'
theorem ok_is_event (F : Fun K "is_event" "is_event" s_is_event f fd) (T : Gb K mg) (cInt : C0 P w K mg base 1 "is_integer" ["thing"] (spInt K)) (cName : C0 P w K mg base 1 "is_name" ["thing"] spName) (cKind : C0 P w K mg base 1 "kind_of" ["word"] spKind) :
    FnOk P w K mg base CX0 2 f fd ["thing"] (spEvent K) := by
  obtain ⟨_, _, cInt⟩ := cInt
  obtain ⟨_, _, cName⟩ := cName
  obtain ⟨_, _, cKind⟩ := cKind
  refine F.ok sc_is_event (fun vs H Q E h => ?_) (fun cdv A outer s H vs Q E hr h => ?_)
  · obtain ⟨v, e, rfl, _⟩ := h
    rfl
  · obtain ⟨v, e, rfl, ⟨t, z, rfl, ht, hz⟩, hok, k⟩ := h
    refine ⟨_, pss_cons (ps_if (PW.pt (pw_or (pt_not (pt_val (pe_callB call_isi (by rfl) T.m_isinstance PyProof.Rows.boot_isinstance (pa_cons (pv 0) (pa_cons (pe_bltn (v := .ty "tuple") (by rfl) T.m_tuple (by decide +kernel) rfl) pa_nil))))) (pw_or (pt_cmpR op_ne (pe_callB call_len_seq (by rfl) T.m_len PySem.boot_len (pa_cons (pv 0) pa_nil)) pe_int (nomark _)) (pw_or1 (pt_not (pt_val (pe_callB call_isi (by rfl) T.m_isinstance PyProof.Rows.boot_isinstance (pa_cons (pe_ix ix_tup (pv 0) pe_int (fun _ _ => rfl)) (pa_cons (pe_bltn (v := .ty "str") (by rfl) T.m_str (by decide +kernel) rfl) pa_nil))))))))) (pss_one (ps_ret pe_bl)) (pss_nil))
    (pss_cons (ps_asg (pv 0) (pg_tup rfl (pgs_cons (pg_name (i := 1) sc_is_event.nd rfl (Or.inl rfl)) (pgs_cons (pg_name (i := 2) sc_is_event.nd rfl (Or.inl rfl)) (pgs_cons (pg_name (i := 3) sc_is_event.nd rfl (Or.inl rfl)) pgs_nil)))))
    (pss_cons (ps_if (pt_cmpR op_in_seq (pv 1) (pe_glob (v := .ref (He.ga K "LONE_WORDS")) (by rfl) T.g_lone rfl) rfl) (pss_one (ps_ret (pe_and (pe_cmpR op_isN (pv 2) pe_non (nomark _)) (pe_one (pe_cmpR op_isN (pv 3) pe_non (nomark _)))))) (pss_nil))
    (pss_cons (ps_if (PW.pt (pw_or (pt_cmpR op_eq (pe_call cKind.ok (hr.mono (by decide)) (by rfl) cKind.mg cKind.kp cKind.bd .nil pass0 (pa_cons (pv 1) pa_nil)) pe_str (nomark _)) (pw_or1 (pt_not (pt_val (pe_call cName.ok (hr.mono (by decide)) (by rfl) cName.mg cName.kp cName.bd .nil pass0 (pa_cons (pv 2) pa_nil))))))) (pss_one (ps_ret pe_bl)) (pss_nil))
    (pss_cons (ps_if (pt_cmpR op_eq (pv 1) pe_str (nomark _)) (pss_one (ps_ret (pe_and (pe_callB call_isi (by rfl) T.m_isinstance PyProof.Rows.boot_isinstance (pa_cons (pv 3) (pa_cons (pe_bltn (v := .ty "tuple") (by rfl) T.m_tuple (by decide +kernel) rfl) pa_nil))) (pe_and (pe_cmpR op_eq (pe_callB call_len_seq (by rfl) T.m_len PySem.boot_len (pa_cons (pv 3) pa_nil)) pe_int (nomark _)) (pe_and (pe_call cInt.ok (hr.mono (by decide)) (by rfl) cInt.mg cInt.kp cInt.bd .nil pass0 (pa_cons (pe_ix ix_tup (pv 3) pe_int (fun _ _ => rfl)) pa_nil)) (pe_one (pe_call cInt.ok (hr.mono (by decide)) (by rfl) cInt.mg cInt.kp cInt.bd .nil pass0 (pa_cons (pe_ix ix_tup (pv 3) pe_int (fun _ _ => rfl)) pa_nil)))))))) (pss_nil))
    (pss_one (ps_ret (pe_ifExp (pt_cmpR op_in_seq (pv 1) (pe_glob (v := .ref (He.ga K "CELL_WORDS")) (by rfl) T.g_cell rfl) rfl) (pe_call cInt.ok (hr.mono (by decide)) (by rfl) cInt.mg cInt.kp cInt.bd .nil pass0 (pa_cons (pv 3) pa_nil)) (pe_cmpR op_isN (pv 3) pe_non (nomark _))))))))), ?_⟩
    refine st_if ?_
    refine ⟨_, rfl, _, _, _, _, true, rfl, .ty _, ty_tup ht, kit_ty (by decide +kernel), true, rfl, iteF ?_⟩
    refine ⟨_, rfl, t, _, rfl, .inr ht, rfl, _, rfl, iteNS rfl ?_⟩
    refine ⟨_, rfl, t, _, _, _, rfl, rfl, ht, atI_nat (j := 0) rfl, _, _, _, _, true, rfl, .ty _, ty_str _, kit_ty (by decide +kernel), true, rfl, iteF ?_⟩
    refine st_nx ?_
    dsimp only
    refine st_asgG ?_
    refine ⟨_, rfl, t, _, rfl, ht, rfl, _, _, rfl, _, _, rfl, _, _, rfl, rfl, ?_⟩
    refine st_if ?_
    refine ⟨_, rfl, _, wLone.map V.str, rfl, .inr (T.t_lone H), rfl, rfl, _, rfl, ?_⟩
    refine ifB (in_strs _ _) ?_
    unfold Ev.ok at hok
    by_cases hl : e.w ∈ wLone
    · refine ifT hl ?_
      rw [kd_lone hl] at hok
      obtain ⟨_, ho, hz'⟩ := hok
      rw [hz'] at hz
      refine st_ret ?_
      rw [ho]
      exact ⟨_, rfl, rfl, true, rfl, iteT ⟨_, rfl, rfl, by rw [show z = V.non from hz]; exact k H (Same.refl H)⟩⟩
    · refine ifF hl ?_
      refine st_nx ?_
      dsimp only
      refine st_if ?_
      refine ⟨_, rfl, _, rfl, rfl, _, rfl, ?_⟩
      have hk : kdOf e.w ≠ .lone := fun z => by
        rw [z] at hok
        exact hl hok.1
      refine ifF (fun z => hk (kd_str (b := .lone) (V.str.inj z))) ?_
      obtain ⟨x, hx, hn⟩ : ∃ x, e.o = some x ∧ nameOk x = true := by
        cases q : kdOf e.w with
        | lone => exact absurd q hk
        | cell => rw [q] at hok; exact hok.1
        | lock => rw [q] at hok; exact hok.1
        | counter => rw [q] at hok; exact hok.1
        | thread => rw [q] at hok; exact hok.1
      refine ⟨_, rfl, x, by rw [hx]; rfl, name_len' hn, fun H1 s1 => ?_⟩
      rw [hn]
      refine ⟨_, rfl, iteF ?_⟩
      refine st_nx ?_
      dsimp only
      refine st_if ?_
      refine ⟨_, rfl, rfl, _, rfl, ?_⟩
      by_cases hw : e.w = "swap"
      · refine ifT (by rw [hw]) ?_
        have hc : kdOf e.w = .cell := by rw [hw]; rfl
        rw [hc] at hok
        obtain ⟨_, h2⟩ := hok
        rw [if_pos hw] at h2
        obtain ⟨i, j, h2⟩ := h2
        rw [h2] at hz
        obtain ⟨q, rfl, hq⟩ := hz
        have hq1 := sqt_same s1 hq
        refine st_ret ?_
        refine ⟨_, rfl, _, _, _, _, true, rfl, .ty _, ty_tup hq1, kit_ty (by decide +kernel), true, rfl, iteT ?_⟩
        refine ⟨_, rfl, q, _, rfl, .inr hq1, rfl, _, rfl, ifT rfl ?_⟩
        refine ⟨_, rfl, q, _, _, _, rfl, rfl, hq1, atI_nat (j := 0) rfl, _, "int", rfl, .base (.int _), by decide, _, rfl, iteT ?_⟩
        exact ⟨_, rfl, q, _, _, _, rfl, rfl, hq1, atI_nat (j := 1) rfl, _, "int", rfl, .base (.int _), by decide, k H1 s1⟩
      · refine ifF (fun z => hw (V.str.inj z)) ?_
        refine st_nx ?_
        dsimp only
        refine st_ret ?_
        refine ⟨_, rfl, _, wCell.map V.str, rfl, .inr (T.t_cell H1), rfl, rfl, _, rfl, ?_⟩
        refine ifB (in_strs _ _) ?_
        by_cases hc : e.w ∈ wCell
        · refine ifT hc ?_
          rw [show kdOf e.w = .cell from if_pos hc] at hok
          obtain ⟨_, h2⟩ := hok
          rw [if_neg hw] at h2
          obtain ⟨i, h2⟩ := h2
          rw [h2] at hz
          subst hz
          exact ⟨_, rfl, _, "int", rfl, .base (.int _), by decide, k H1 s1⟩
        · refine ifF hc ?_
          have h2 : e.z = .non := by
            cases q : kdOf e.w with
            | lone => exact absurd q hk
            | cell => exact absurd (kd_cell q) hc
            | lock => rw [q] at hok; exact hok.2
            | counter => rw [q] at hok; exact hok.2
            | thread => rw [q] at hok; exact hok.2
          rw [h2] at hz
          refine ⟨_, rfl, rfl, ?_⟩
          rw [show z = V.non from hz]
          exact k H1 s1
end
end Lg

namespace Lg
open PySem L2 TL
/-! ### deep data -/
mutual
theorem dp_same {K : PySem.W.Frag} {H H' : Hp} (e : Same H H') : ∀ {v : V} {d : PyData}, Dp K H v d → Dp K H' v d
  | _, _, .non => .non
  | _, _, .bl b => .bl b
  | _, _, .int i => .int i
  | _, _, .str x => .str x
  | _, _, .lst h ds => .lst (e.seq h) (dps_same e ds)
  | _, _, .tup h ds => .tup (sqt_same e h) (dps_same e ds)
theorem dps_same {K : PySem.W.Frag} {H H' : Hp} (e : Same H H') : ∀ {vs : List V} {ds : List PyData}, DpAll K H vs ds → DpAll K H' vs ds
  | _, _, .nil => .nil
  | _, _, .cons h hs => .cons (dp_same e h) (dps_same e hs)
end
def GoodD (d : PyData) : Prop := d.canLay0 = true ∧ d.depth ≤ 5
theorem good_all : ∀ {ds : List PyData}, (∀ d ∈ ds, GoodD d) → PyData.canLayAll0 ds = true ∧ PyData.depthAll ds ≤ 5
  | [], _ => ⟨rfl, Nat.zero_le _⟩
  | d :: ds, h => by
    obtain ⟨h1, h2⟩ := h d (List.mem_cons_self ..)
    obtain ⟨h3, h4⟩ := good_all (ds := ds) fun e he => h e (List.mem_cons_of_mem _ he)
    refine ⟨?_, ?_⟩
    · rw [PyData.canLayAll0, h1, h3] <;> rfl
    · rw [PyData.depthAll]
      exact Nat.max_le.mpr ⟨h2, h4⟩
theorem shaped_good {d : PyData} (h : GoodD d) : SeqAt.shaped d = true := Bool.and_eq_true_iff.mpr ⟨h.1, decide_eq_true (Nat.le_trans h.2 (by decide))⟩
theorem shaped_list {ds : List PyData} (h : ∀ d ∈ ds, GoodD d) : SeqAt.shaped (.list ds) = true := by
  obtain ⟨h1, h2⟩ := good_all h
  refine Bool.and_eq_true_iff.mpr ⟨?_, decide_eq_true ?_⟩
  · rw [PyData.canLay0]
    exact h1
  · rw [PyData.depth]
    omega
theorem shaped_tuple {ds : List PyData} (h : ∀ d ∈ ds, GoodD d) : SeqAt.shaped (.tuple ds) = true := by
  obtain ⟨h1, h2⟩ := good_all h
  refine Bool.and_eq_true_iff.mpr ⟨?_, decide_eq_true ?_⟩
  · rw [PyData.canLay0]
    exact h1
  · rw [PyData.depth]
    omega
/-! ### an event as data -/
def oD : Option Str → PyData
  | none => .none
  | some x => .str x
def zD : Vl → PyData
  | .non => .none
  | .one i => .int i
  | .two i j => .tuple [.int i, .int j]
def evD (e : Ev) : PyData := .tuple [.str e.w, oD e.o, zD e.z]
theorem ev_dp {K : PySem.W.Frag} {H : Hp} {v : V} {e : Ev} (h : EvAt K H v e) : Dp K H v (evD e) := by
  obtain ⟨t, z, rfl, ht, hz⟩ := h
  refine .tup ht (.cons (.str _) (.cons ?_ (.cons ?_ .nil)))
  · cases e.o with
    | none => exact .non
    | some x => exact .str x
  · cases q : e.z with
    | non =>
      rw [q] at hz
      rw [show z = V.non from hz]
      exact .non
    | one i =>
      rw [q] at hz
      rw [show z = V.int i from hz]
      exact .int i
    | two i j =>
      rw [q] at hz
      obtain ⟨a, rfl, h⟩ := hz
      exact .tup h (.cons (.int i) (.cons (.int j) .nil))
theorem sgn_lt {c : Nat} (h : isSgn c = true) : c < 0x110000 := by
  unfold isSgn isLet at h
  have a : ∀ c ∈ LET.cps.toList ++ DIG.cps.toList, c < 0x110000 := by decide +kernel
  refine a c (List.mem_append.mpr ?_)
  simpa [Bool.or_eq_true] using h
theorem name_str {x : Str} (h : nameOk x = true) : PyData.strOk x = true := by
  unfold nameOk at h
  unfold PyData.strOk
  rw [← Array.all_toList]
  cases hx : x.cps.toList with
  | nil => rfl
  | cons c r =>
    rw [hx] at h
    have h2 : (c :: r).all isSgn = true := (Bool.and_eq_true_iff.mp h).2
    rw [List.all_eq_true] at h2 ⊢
    exact fun c' hc => decide_eq_true (sgn_lt (h2 c' hc))
abbrev wAll : List Str := ["read", "write", "swap", "lock", "unlock", "share", "unshare", "up", "down", "fork", "join", "step", "end"]
theorem ok_word {e : Ev} (h : e.ok) : e.w ∈ wAll := by
  have mono : ∀ l : List Str, (l.all fun x => decide (x ∈ wAll)) = true → e.w ∈ l → e.w ∈ wAll := fun l hl hm => of_decide_eq_true (List.all_eq_true.mp hl _ hm)
  unfold Ev.ok kdOf at h
  by_cases h1 : e.w ∈ wCell
  · exact mono wCell (by decide +kernel) h1
  rw [if_neg h1] at h
  by_cases h2 : e.w ∈ wLock
  · exact mono wLock (by decide +kernel) h2
  rw [if_neg h2] at h
  by_cases h3 : e.w ∈ wCnt
  · exact mono wCnt (by decide +kernel) h3
  rw [if_neg h3] at h
  by_cases h4 : e.w ∈ wThr
  · exact mono wThr (by decide +kernel) h4
  rw [if_neg h4] at h
  exact mono wLone (by decide +kernel) h.1
theorem ok_shape {e : Ev} (h : e.ok) : (∀ x, e.o = some x → nameOk x = true) := by
  intro x hx
  unfold Ev.ok at h
  cases q : kdOf e.w with
  | lone =>
    rw [q] at h
    rw [h.2.1] at hx
    cases hx
  | cell => rw [q] at h; obtain ⟨⟨y, e1, e2⟩, _⟩ := h; rw [hx] at e1; cases e1; exact e2
  | lock => rw [q] at h; obtain ⟨⟨y, e1, e2⟩, _⟩ := h; rw [hx] at e1; cases e1; exact e2
  | counter => rw [q] at h; obtain ⟨⟨y, e1, e2⟩, _⟩ := h; rw [hx] at e1; cases e1; exact e2
  | thread => rw [q] at h; obtain ⟨⟨y, e1, e2⟩, _⟩ := h; rw [hx] at e1; cases e1; exact e2
theorem good_str {x : Str} (h : PyData.strOk x = true) : GoodD (.str x) := ⟨by simp [PyData.canLay0, h], by simp [PyData.depth]⟩
theorem good_int (i : Int) : GoodD (.int i) := ⟨by simp [PyData.canLay0], by simp [PyData.depth]⟩
theorem good_non : GoodD .none := ⟨by simp [PyData.canLay0], by simp [PyData.depth]⟩
theorem ev_good {e : Ev} (h : e.ok) : GoodD (evD e) := by
  have h1 : PyData.strOk e.w = true := by
    have a : ∀ x ∈ wAll, PyData.strOk x = true := by decide +kernel
    exact a _ (ok_word h)
  have h2 : PyData.canLay0 (oD e.o) = true ∧ PyData.depth (oD e.o) ≤ 0 := by
    cases q : e.o with
    | none => exact ⟨by simp [oD, PyData.canLay0], by simp [oD, PyData.depth]⟩
    | some x => exact ⟨by simp [oD, PyData.canLay0, name_str (ok_shape h x q)], by simp [oD, PyData.depth]⟩
  have h3 : PyData.canLay0 (zD e.z) = true ∧ PyData.depth (zD e.z) ≤ 1 := by
    cases e.z <;> exact ⟨by simp [zD, PyData.canLay0, PyData.canLayAll0], by simp [zD, PyData.depth, PyData.depthAll]⟩
  refine ⟨by simp [evD, PyData.canLay0, PyData.canLayAll0, h1, h2.1, h3.1], ?_⟩
  simp only [evD, PyData.depth, PyData.depthAll]
  omega
/-! ### rows -/
def RowAt (K : PySem.W.Frag) (H : Hp) (v : V) (es : List Ev) : Prop := ∃ a xs, v = .ref a ∧ (SqL K H a xs ∨ SqT K H a xs) ∧ Paired (EvAt K H) xs es
theorem evs_same {K : PySem.W.Frag} {H H' : Hp} (s : Same H H') : ∀ {xs : List V} {es : List Ev}, Paired (EvAt K H) xs es → Paired (EvAt K H') xs es
  | _, _, .nil => .nil
  | _, _, .cons h hs => .cons (h.same s) (evs_same s hs)
theorem RowAt.same {K : PySem.W.Frag} {H H' : Hp} {v : V} {es : List Ev} (s : Same H H') (h : RowAt K H v es) : RowAt K H' v es := by
  obtain ⟨a, xs, e, h1, h2⟩ := h
  exact ⟨a, xs, e, h1.imp (fun q => s.seq q) (fun q => sqt_same s q), evs_same s h2⟩
def isEnd (e : Ev) : Bool := e.w == "end"
/-- a row that ends with its thread's end -/
def endsB (es : List Ev) : Bool := match es.getLast? with
  | none => false
  | some e => isEnd e
theorem ok_end {e : Ev} (h : e.ok) (hw : e.w = "end") : e.o = none ∧ e.z = .non := by
  unfold Ev.ok at h
  rw [show kdOf e.w = .lone by rw [hw]; rfl] at h
  exact h.2
theorem eqv_end {e : Ev} (h : e.ok) : PyData.eqv (evD e) (.tuple [.str "end", .none, .none]) = isEnd e := by
  unfold isEnd
  by_cases hw : e.w = "end"
  · obtain ⟨h1, h2⟩ := ok_end h hw
    simp [evD, PyData.eqv, PyData.eqvAll, hw, h1, h2, oD, zD]
  · rw [beq_eq_false_iff_ne.mpr hw]
    simp [evD, PyData.eqv, PyData.eqvAll, hw]
theorem rd_ix {K : PySem.W.Frag} {a : Addr} {xs : List V} {i : Int} {v : V} {H : Hp} {Q : VK} (h : SqL K H a xs ∨ SqT K H a xs) (e : atI xs i = some v) (q : Q v H) : rIx K (.ref a) (.int i) H Q :=
  h.elim (fun h => .inl ⟨a, xs, i, v, rfl, rfl, h, e, q⟩) (fun h => .inr (.inl ⟨a, xs, i, v, rfl, rfl, h, e, q⟩))
section
variable {P : Program} {w : World} {K : PySem.W.Frag} {mg : Str → Option Value} {base : Heap} {f : Addr} {fd : FuncData}
abbrev s_does_end : Stmt := top 22
theorem sc_does_end : FnScope ["row"] ["row"] (defScope s_does_end) := ⟨rfl, rfl, rfl, by decide +kernel, rfl, by decide +kernel, by decide +kernel⟩
def spEnds (K : PySem.W.Frag) : Sp := fun vs H Q _ => ∃ (v : V) (es : List Ev), vs = [v] ∧ RowAt K H v es ∧ (∀ e ∈ es, e.ok) ∧ ∀ H', Same H H' → Q (.bl (endsB es)) H'
theorem ok_does_end (F : Fun K "does_end" "does_end" s_does_end f fd) (T : Gb K mg) : FnOk P w K mg base CX0 1 f fd ["row"] (spEnds K) := by
  refine F.ok sc_does_end (fun vs H Q E h => ?_) (fun cdv A outer s H vs Q E hr h => ?_)
  · obtain ⟨v, e, rfl, _⟩ := h
    rfl
  · obtain ⟨v, es, rfl, ⟨a, xs, rfl, ha, hp⟩, hok, k⟩ := h
    refine ⟨_, pss_one (ps_ret (pe_and (pe_cmpR op_gt (pe_callB call_len_seq (by rfl) T.m_len PySem.boot_len (pa_cons (pv 0) pa_nil)) pe_int (nomark _)) (pe_and (pe_callB call_isi (by rfl) T.m_isinstance PyProof.Rows.boot_isinstance (pa_cons (pe_ix ix_seq (pv 0) (pe_un un_neg pe_int) (fun _ _ => rfl)) (pa_cons (pe_bltn (v := .ty "tuple") (by rfl) T.m_tuple (by decide +kernel) rfl) pa_nil))) (pe_one (pe_cmpR (op_eqD hr.units) (pe_ix ix_seq (pv 0) (pe_un un_neg pe_int) (fun _ _ => rfl)) (pe_tup (pa_cons pe_str (pa_cons pe_non (pa_cons pe_non pa_nil)))) (nomark _)))))), ?_⟩
    refine st_ret ?_
    refine ⟨_, rfl, a, xs, rfl, ha, _, 0, rfl, rfl, _, rfl, ?_⟩
    have hlen : xs.length = es.length := Paired.length hp
    rcases List.eq_nil_or_concat es with rfl | ⟨es', e, rfl⟩
    · rw [hlen]
      exact iteF (k H (Same.refl H))
    · rw [List.concat_eq_append] at hp hok k hlen
      obtain ⟨xs', x, rfl, hp', hx⟩ := paired_snoc hp
      refine ifT (by rw [hlen]; simp) ?_
      have he : e.ok := hok e (by simp)
      have hend : endsB (es' ++ [e]) = isEnd e := by simp [endsB]
      rw [hend] at k
      have hx0 := hx
      obtain ⟨t, z, rfl, ht, hz⟩ := hx
      refine ⟨_, rfl, 1, rfl, rd_ix ha (atI_last xs' _) ?_⟩
      refine ⟨_, _, _, _, true, rfl, .ty _, ty_tup ht, kit_ty (by decide +kernel), true, rfl, iteT ?_⟩
      refine ⟨_, rfl, 1, rfl, rd_ix ha (atI_last xs' _) ?_⟩
      refine ⟨by show 3 ≤ sizeLine; decide, fun q hq => ?_⟩
      have s1 : Same H (upd H q (.tup [.str "end", .non, .non])) := same_new hq
      refine ⟨_, _, ev_dp (hx0.same s1), .tup (SqT.of upd_same) (.cons (.str _) (.cons .non (.cons .non .nil))), shaped_good (ev_good he), ?_, ?_⟩
      · decide +kernel
      · rw [eqv_end he]
        exact k _ s1
/-! ### is_held_right -/
abbrev s_is_held_right : Stmt := top 21
theorem sc_is_held_right : FnScope ["held", "word", "name"] ["held", "word", "name"] (defScope s_is_held_right) := ⟨rfl, rfl, rfl, by decide +kernel, rfl, by decide +kernel, by decide +kernel⟩
def HeldIs (kvs : List (Key × V)) (h : Str → Option Str) : Prop := ∀ x : Str, valV kvs (Sum.inr x) = (h x).map V.str
def heldGo (h : Str → Option Str) (w x : Str) : Option (Str → Option Str) :=
  if w ∈ (["lock", "share"] : List Str) then if h x = none then some fun y => if y = x then some w else h y else none
  else if h x = some (if w = "unlock" then ("lock" : Str) else "share") then some fun y => if y = x then none else h y else none
def Bt (l : List Addr) (H H' : Hp) : Prop := ∀ b u, b ∉ l → H b = some u → H' b = some u
def spHeld : Sp := fun vs H Q _ => ∃ (d : Addr) (wd x : Str) (kvs : List (Key × V)) (h h' : Str → Option Str), vs = [.ref d, .str wd, .str x] ∧ H d = some (.dK kvs) ∧ kvs.length ≤ 1000 ∧ HeldIs kvs h ∧ heldGo h wd x = some h' ∧
  ∀ kvs' H', Bt [d] H H' → H' d = some (.dK kvs') → HeldIs kvs' h' → kvs'.length ≤ kvs.length + 1 → Q (.bl true) H'
theorem ok_is_held_right (F : Fun K "is_held_right" "is_held_right" s_is_held_right f fd) (T : Gb K mg) : FnOk P w K mg base CX0 1 f fd ["held", "word", "name"] spHeld := by
  refine F.ok sc_is_held_right (fun vs H Q E h => ?_) (fun cdv A outer s H vs Q E hr h => ?_)
  · obtain ⟨d, wd, x, kvs, h, h', rfl, _⟩ := h
    rfl
  · obtain ⟨d, wd, x, kvs, h, h', rfl, hd, hl, hi, hg, k⟩ := h
    have hu := hu_of hr
    refine ⟨_, pss_cons (ps_if (pt_cmpR op_in_seq (pv 1) (pe_tup (pa_cons pe_str (pa_cons pe_str pa_nil))) rfl) (pss_cons (ps_if (pt_cmp (pc_din hu (pv 2) (pv 0))) (pss_one (ps_ret pe_bl)) (pss_nil))
    (pss_cons ((ps_dput hu (pv 0) (pv 2) (pv 1) rfl))
    (pss_one (ps_ret pe_bl)))) (pss_nil))
    (pss_cons (ps_if (pt_cmpR op_ne (pe_dget1 hu (pv 0) (pv 2) (by exact ⟨rfl, rfl, rfl, rfl⟩)) (pe_ifExp (pt_cmpR op_eq (pv 1) pe_str (nomark _)) pe_str pe_str) (nomark _)) (pss_one (ps_ret pe_bl)) (pss_nil))
    (pss_cons (ps_expr (pe_dpop1 (pv 0) (pv 2) (by exact ⟨rfl, rfl, rfl, rfl⟩)))
    (pss_one (ps_ret pe_bl)))), ?_⟩
    refine st_if ?_
    refine ⟨_, rfl, by show 2 ≤ sizeLine; decide, fun q hq => ?_⟩
    have s1 : Same H (upd H q (.tup [.str "lock", .str "share"])) := same_new hq
    have hd1 : (upd H q (.tup [.str "lock", .str "share"])) d = some (.dK kvs) := s1 d _ hd
    have ht1 : (upd H q (.tup [.str "lock", .str "share"])) q = some (.tup [.str "lock", .str "share"]) := upd_same
    generalize upd H q (.tup [.str "lock", .str "share"]) = H1 at s1 hd1 ht1 ⊢
    refine ⟨q, (["lock", "share"] : List Str).map V.str, rfl, .inr (SqT.of ht1), rfl, rfl, _, rfl, ?_⟩
    refine ifB (in_strs _ _) ?_
    unfold heldGo at hg
    by_cases hw : wd ∈ (["lock", "share"] : List Str)
    · refine ifT hw ?_
      rw [if_pos hw] at hg
      refine st_if ?_
      refine ⟨_, rfl, _, rfl, d, _, rfl, DGet.k (k := Sum.inr x) hd1, _, rfl, ?_⟩
      rw [hi x]
      cases hx : h x with
      | some y =>
        rw [hx] at hg
        rw [if_neg (by simp)] at hg
        cases hg
      | none =>
        rw [if_pos hx] at hg
        cases hg
        refine iteF ?_
        refine st_nx ?_
        dsimp only
        refine st_dput ?_
        refine ⟨_, rfl, _, rfl, _, rfl, d, _, rfl, DPut.k (k := Sum.inr x) hd1 (Nat.lt_of_le_of_lt hl (by decide)), ?_⟩
        refine k _ _ (fun b u hb e => ?_) upd_same (fun y => ?_) (length_putK _ _ _)
        · rw [upd_ne (by simpa using hb)]
          exact s1 b u e
        · rw [valV_put, hi y]
          by_cases e : y = x
          · rw [if_pos (by rw [e])]
            simp [e]
          · rw [if_neg (fun z => e (Sum.inr.inj z))]
            dsimp only
            rw [if_neg e]
    · refine ifF hw ?_
      rw [if_neg hw] at hg
      refine st_nx ?_
      dsimp only
      by_cases hx : h x = some (if wd = "unlock" then ("lock" : Str) else "share")
      · rw [if_pos hx] at hg
        cases hg
        refine st_if ?_
        refine ⟨_, rfl, d, rfl, .inl ⟨kvs, .inl hd1⟩, _, rfl, _, DGet.k (k := Sum.inr x) hd1, _, rfl, rfl, _, rfl, ?_⟩
        have hv : valV kvs (Sum.inr x) = some (.str (if wd = "unlock" then ("lock" : Str) else "share")) := by rw [hi x, hx]; rfl
        rw [hv]
        have fin : tSeq (tDrop (tDPop1 (tVar 0) (tVar 2))) (tRet (tC (V.bl true))) { nx := fun x H' => Q V.non H', rt := Q } (L2.start ["held", "word", "name"] [V.ref d, V.str wd, V.str x]) H1 := by
          refine st_drop ?_
          refine ⟨_, rfl, d, rfl, .inl ⟨kvs, .inl hd1⟩, _, rfl, kvs, Sum.inr x, _, hd1, rfl, hv, ?_⟩
          refine k _ _ (fun b u hb e => ?_) upd_same (fun y => ?_) (Nat.le_succ_of_le (dropK_le _ _))
          · rw [upd_ne (by simpa using hb)]
            exact s1 b u e
          · rw [valV_drop, hi y]
            by_cases e : y = x
            · rw [if_pos (by rw [e])]
              simp [e]
            · rw [if_neg (fun z => e (Sum.inr.inj z))]
              dsimp only
              rw [if_neg e]
        by_cases hun : wd = "unlock"
        · refine ifT (by rw [hun]) ⟨rfl, _, rfl, ?_⟩
          refine iteNS (by rw [if_pos hun]; rfl) ?_
          exact fin
        · refine ifF (fun z => hun (V.str.inj z)) ⟨rfl, _, rfl, ?_⟩
          refine iteNS (by rw [if_neg hun]; rfl) ?_
          exact fin
      · rw [if_neg hx] at hg
        cases hg
end
end Lg

namespace Lg
open PySem L2 TL
/-- an if, both ways joined by W -/
theorem st_ifJ (W : St → Hp → Prop) {c : TT} {t e u : TS} {D : Ends} {σ : St} {H : Hp} (h : ∀ R : St → Hp → Prop, (∀ σ H, W σ H → R σ H) → c σ H fun b H1 => if b = true then t { D with nx := R } σ H1 else e { D with nx := R } σ H1) (h2 : ∀ σ H, W σ H → u D σ H) : tSeq (tIfS c t e) u D σ H := h (u D) h2
theorem st_fld {K : PySem.W.Frag} {ta tv : TE} {f : Str} {u : TS} {D : Ends} {σ : St} {H : Hp} (h : tv σ H fun y H1 => ta σ H1 fun x H2 => ∃ a C dx fs, x = .ref a ∧ H2 a = some (.ins C dx fs) ∧ Cls K C ∧ NoAttr K C f ∧ fs.length < 1000 ∧ u D σ (upd H2 a (.ins C dx (putF f y fs)))) : tSeq (sFld K ta tv f) u D σ H := h
/-! ### what a step leaves: tuples always, all else but the places l; the code's tables (n) -/
def tupO : HO → Bool
  | .tup _ => true
  | .frz _ (.tup _) => true
  | _ => false
def tblO : HO → Bool
  | .tbl _ => true
  | _ => false
structure StepB (n : Bool) (l : List Addr) (H H' : Hp) : Prop where
  tup : ∀ t u, tupO u = true → H t = some u → H' t = some u
  oth : ∀ b u, b ∉ l → tblO u = false → H b = some u → H' b = some u
  tab : n = true → ∀ b ps, H b = some (.tbl ps) → H' b = some (.tbl ps)
abbrev Step := StepB true
abbrev StepN := StepB false
theorem StepB.refl {n : Bool} (l : List Addr) (H : Hp) : StepB n l H H := ⟨fun _ _ _ e => e, fun _ _ _ _ e => e, fun _ _ _ e => e⟩
theorem StepB.of {n : Bool} {l : List Addr} {H H' : Hp} (s : Same H H') : StepB n l H H' := ⟨fun t u _ e => s t u e, fun b u _ _ e => s b u e, fun _ b ps e => s b _ e⟩
theorem StepB.new {n : Bool} {l : List Addr} {H : Hp} {p : Addr} {o : HO} (h : H p = none) : StepB n l H (upd H p o) := .of (same_new h)
theorem StepB.weak {n : Bool} {l : List Addr} {H H' : Hp} (s : Step l H H') : StepB n l H H' := ⟨s.tup, s.oth, fun _ => s.tab rfl⟩
theorem StepB.ext {l : List Addr} {H H' : Hp} (s : LamX.ExtN H H') : StepN l H H' := ⟨fun t u h e => s t u e (fun ps z => by rw [z] at h; cases h), fun b u _ h e => s b u e (fun ps z => by rw [z] at h; cases h), fun z => by cases z⟩
theorem StepB.put {n : Bool} {H : Hp} {a : Addr} {u o : HO} (h : H a = some u) (hu : tupO u = false) (hu2 : tblO u = false := by rfl) : StepB n [a] H (upd H a o) := by
  refine ⟨fun t v hv e => ?_, fun b v hb _ e => ?_, fun _ b ps e => ?_⟩
  · rw [upd_ne (fun z => by rw [z, h] at e; cases e; rw [hu] at hv; cases hv)]
    exact e
  · rw [upd_ne (by simpa using hb)]
    exact e
  · rw [upd_ne (fun z => by rw [z, h] at e; cases e; cases hu2)]
    exact e
theorem StepB.wide {n : Bool} {l l' : List Addr} {H H' : Hp} (s : StepB n l H H') (h : ∀ b ∈ l, b ∈ l' ∨ H b = none) : StepB n l' H H' :=
  ⟨s.tup, fun b u hb hu e => s.oth b u (fun z => (h b z).elim hb fun q => by rw [q] at e; cases e) hu e, s.tab⟩
theorem StepB.trans {n : Bool} {l : List Addr} {H H1 H2 : Hp} (a : StepB n l H H1) (b : StepB n l H1 H2) : StepB n l H H2 :=
  ⟨fun t u h e => b.tup t u h (a.tup t u h e), fun c u hc hu e => b.oth c u hc hu (a.oth c u hc hu e), fun z c ps e => b.tab z c ps (a.tab z c ps e)⟩
/-- a second step that touches new places besides -/
theorem StepB.then {n : Bool} {l l' : List Addr} {H H1 H2 : Hp} (a : StepB n l H H1) (b : StepB n l' H1 H2) (h : ∀ c ∈ l', c ∈ l ∨ H c = none) : StepB n l H H2 :=
  ⟨fun t u hu e => b.tup t u hu (a.tup t u hu e), fun c u hc hu e => b.oth c u (fun z => (h c z).elim hc fun q => by rw [q] at e; cases e) hu (a.oth c u hc hu e), fun z c ps e => b.tab z c ps (a.tab z c ps e)⟩
/-- a step within a dict's lock -/
theorem StepB.unlock {n : Bool} {l : List Addr} {H H' : Hp} {a : Addr} {od : Obj} {u : HO} (h : H a = some u) (hu : tupO u = false) (hu2 : tblO u = false) (s : StepB n l (upd H a (.frz od u)) H') : StepB n l H (upd H' a u) := by
  refine ⟨fun t v hv e => ?_, fun b v hb ht e => ?_, fun z b ps e => ?_⟩
  · have ne : t ≠ a := fun z => by rw [z, h] at e; cases e; rw [hu] at hv; cases hv
    rw [upd_ne ne]
    exact s.tup t v hv (by rw [upd_ne ne]; exact e)
  · by_cases ne : b = a
    · rw [ne, h] at e
      cases e
      rw [ne, upd_same]
    · rw [upd_ne ne]
      exact s.oth b v hb ht (by rw [upd_ne ne]; exact e)
  · have ne : b ≠ a := fun q => by rw [q, h] at e; cases e; cases hu2
    rw [upd_ne ne]
    exact s.tab z b ps (by rw [upd_ne ne]; exact e)
theorem tabs_step {T : List (Addr × Str)} {l : List Addr} {H H' : Hp} (t : LamX.Tabs T H) (s : Step l H H') (hl : ∀ b ∈ l, ∀ q, H b ≠ some (LamX.CodeO b q)) : LamX.Tabs T H' := fun p hp => by
  obtain ⟨ps, h1, h2, h3⟩ := t p hp
  refine ⟨ps, s.tab rfl _ _ h1, h2, fun pos cv e => ?_⟩
  obtain ⟨c, e1, e2⟩ := h3 pos cv e
  exact ⟨c, e1, s.oth c _ (fun z => hl c z _ e2) rfl e2⟩
theorem sqt_step {K : PySem.W.Frag} {nt : Bool} {l : List Addr} {H H' : Hp} {a : Addr} {xs : List V} (s : StepB nt l H H') (h : SqT K H a xs) : SqT K H' a xs := by
  rcases h with h | h
  · rcases h with h | ⟨o, h⟩
    · exact Or.inl (Or.inl (s.tup a _ rfl h))
    · exact Or.inl (Or.inr ⟨o, s.tup a _ rfl h⟩)
  · exact Or.inr h
theorem VlAt.step {K : PySem.W.Frag} {nt : Bool} {l : List Addr} {H H' : Hp} {v : V} {z : Vl} (s : StepB nt l H H') (h : VlAt K H v z) : VlAt K H' v z := by
  cases z with
  | non => exact h
  | one i => exact h
  | two i j =>
    obtain ⟨t, e, h⟩ := h
    exact ⟨t, e, sqt_step s h⟩
theorem EvAt.step {K : PySem.W.Frag} {nt : Bool} {l : List Addr} {H H' : Hp} {v : V} {e : Ev} (s : StepB nt l H H') (h : EvAt K H v e) : EvAt K H' v e := by
  obtain ⟨t, z, h1, h2, h3⟩ := h
  exact ⟨t, z, h1, sqt_step s h2, h3.step s⟩
theorem evs_step {K : PySem.W.Frag} {nt : Bool} {l : List Addr} {H H' : Hp} (s : StepB nt l H H') : ∀ {xs : List V} {es : List Ev}, Paired (EvAt K H) xs es → Paired (EvAt K H') xs es
  | _, _, .nil => .nil
  | _, _, .cons h hs => .cons (h.step s) (evs_step s hs)
/-- a place that holds no list -/
def noLst (H : Hp) (b : Addr) : Prop := ∀ u, H b = some u → (∀ xs, u ≠ .lst xs) ∧ ∀ o xs, u ≠ .frz o (.lst xs)
theorem noLst_of {H : Hp} {b : Addr} {u : HO} (h : H b = some u) (h1 : ∀ xs, u ≠ .lst xs) (h2 : ∀ o xs, u ≠ .frz o (.lst xs)) : noLst H b := fun v e => by
  rw [h] at e
  cases e
  exact ⟨h1, h2⟩
theorem noLst_new {H : Hp} {b : Addr} (h : H b = none) : noLst H b := fun v e => by
  rw [h] at e
  cases e
theorem sql_step {K : PySem.W.Frag} {nt : Bool} {l : List Addr} {H H' : Hp} {a : Addr} {xs : List V} (s : StepB nt l H H') (hl : ∀ b ∈ l, noLst H b) (h : SqL K H a xs) : SqL K H' a xs := by
  rcases h with h | h
  · rcases h with h | ⟨o, h⟩
    · exact Or.inl (Or.inl (s.oth a _ (fun z => (hl a z _ h).1 _ rfl) rfl h))
    · exact Or.inl (Or.inr ⟨o, s.oth a _ (fun z => (hl a z _ h).2 _ _ rfl) rfl h⟩)
  · exact Or.inr h
theorem RowAt.step {K : PySem.W.Frag} {nt : Bool} {l : List Addr} {H H' : Hp} {v : V} {es : List Ev} (s : StepB nt l H H') (hl : ∀ b ∈ l, noLst H b) (h : RowAt K H v es) : RowAt K H' v es := by
  obtain ⟨a, xs, e, h1, h2⟩ := h
  exact ⟨a, xs, e, h1.imp (fun q => sql_step s hl q) (fun q => sqt_step s q), evs_step s h2⟩
/-! ### the rows of a log: a dict -/
abbrev Rows := List (Str × List Ev)
def RwsR (K : PySem.W.Frag) (H : Hp) (kv : Key × V) (p : Str × List Ev) : Prop := kv.1 = Sum.inr p.1 ∧ RowAt K H kv.2 p.2
def RowsAt (K : PySem.W.Frag) (H : Hp) (ra : Addr) (rows : Rows) : Prop := ∃ kvs, H ra = some (.dK kvs) ∧ Paired (RwsR K H) kvs rows
theorem rws_step {K : PySem.W.Frag} {nt : Bool} {l : List Addr} {H H' : Hp} (s : StepB nt l H H') (hl : ∀ b ∈ l, noLst H b) : ∀ {kvs : List (Key × V)} {rows : Rows}, Paired (RwsR K H) kvs rows → Paired (RwsR K H') kvs rows
  | _, _, .nil => .nil
  | _, _, .cons h hs => .cons ⟨h.1, h.2.step s hl⟩ (rws_step s hl hs)
theorem RowsAt.step {K : PySem.W.Frag} {nt : Bool} {l : List Addr} {H H' : Hp} {ra : Addr} {rows : Rows} (s : StepB nt l H H') (hl : ∀ b ∈ l, noLst H b) (hr : ra ∉ l) (h : RowsAt K H ra rows) : RowsAt K H' ra rows := by
  obtain ⟨kvs, h1, h2⟩ := h
  exact ⟨kvs, s.oth ra _ hr rfl h1, rws_step s hl h2⟩
theorem rws_keys {K : PySem.W.Frag} {H : Hp} : ∀ {kvs : List (Key × V)} {rows : Rows}, Paired (RwsR K H) kvs rows → kvs.map (·.1) = (rows.map (·.1)).map Sum.inr
  | _, _, .nil => rfl
  | _, _, .cons h hs => by
    rw [List.map_cons, List.map_cons, List.map_cons, rws_keys hs, h.1]
theorem rws_val {K : PySem.W.Frag} {H : Hp} {x : Str} : ∀ {kvs : List (Key × V)} {rows : Rows}, Paired (RwsR K H) kvs rows → (∀ es, rows.lookup x = some es → ∃ v, valV kvs (Sum.inr x) = some v ∧ RowAt K H v es) ∧ (rows.lookup x = none → valV kvs (Sum.inr x) = none)
  | _, _, .nil => ⟨fun es h => (by cases h), fun _ => rfl⟩
  | kv :: kvs, p :: rows, .cons h hs => by
    obtain ⟨i1, i2⟩ := rws_val (x := x) hs
    obtain ⟨y, es0⟩ := p
    by_cases e : x = y
    · subst e
      refine ⟨fun es h2 => ?_, fun h2 => ?_⟩
      · rw [List.lookup_cons_self] at h2
        cases h2
        exact ⟨kv.2, valV_pos h.1, h.2⟩
      · rw [List.lookup_cons_self] at h2
        cases h2
    · have e1 : (x == y) = false := beq_eq_false_iff_ne.mpr e
      rw [List.lookup_cons, e1, valV_neg (fun z => e (Sum.inr.inj (h.1.symm.trans z)).symm)]
      exact ⟨i1, i2⟩
/-! ### what a checker holds -/
def KindsOk (kk : List (Key × V)) (κ : Str → Kd) : Prop := ∀ x v, valV kk (Sum.inr x) = some v → v = .str (κ x).str
structure ChkAt (K : PySem.W.Frag) (H : Hp) (C c dx ra kd fk : Addr) (rows : Rows) (κ : Str → Kd) (fs : List Str) (n : Nat) : Prop where
  ins : H c = some (.ins C dx [("rows", .ref ra), ("kinds", .ref kd), ("forked", .ref fk)])
  rws : RowsAt K H ra rows
  kds : ∃ kk, H kd = some (.dK kk) ∧ KindsOk kk κ ∧ kk.length ≤ n
  fks : ∃ ff, H fk = some (.dK ff) ∧ (∀ x, (valV ff (Sum.inr x)).isSome = decide (x ∈ fs)) ∧ ff.length ≤ n
  ne1 : kd ≠ fk
  ne2 : ra ≠ kd
  ne3 : ra ≠ fk
/-- facts of the class Checker -/
structure ChkC (K : PySem.W.Frag) (C : Addr) : Prop where
  cl : Cls K C
  n1 : NoAttr K C "rows"
  n2 : NoAttr K C "kinds"
  n3 : NoAttr K C "forked"
/-- what holds of an event in any case -/
structure EvGood (rows : Rows) (κ : Str → Kd) (t : Str) (len at' : Nat) (e : Ev) : Prop where
  ok : e.ok
  kind : kdOf e.w ≠ .lone → ∀ x, e.o = some x → κ x = kdOf e.w
  thr : kdOf e.w = .thread → ∀ x, e.o = some x → x ≠ t ∧ ∃ es, rows.lookup x = some es ∧ (∀ e' ∈ es, e'.ok) ∧ (e.w = "join" → endsB es = true)
  last : e.w = "end" → at' + 1 = len
def forkE (e : Ev) : List Str := if e.w = "fork" then e.o.toList else []
def heldE (h : Str → Option Str) (e : Ev) : Option (Str → Option Str) := match kdOf e.w, e.o with
  | .lock, some x => heldGo h e.w x
  | _, _ => some h
theorem ChkAt.step {K : PySem.W.Frag} {nt : Bool} {l : List Addr} {H H' : Hp} {C c dx ra kd fk : Addr} {rows : Rows} {κ : Str → Kd} {fs : List Str} {n : Nat} (h : ChkAt K H C c dx ra kd fk rows κ fs n) (s : StepB nt l H H') (hl : ∀ b ∈ l, noLst H b)
    (h1 : c ∉ l) (h2 : ra ∉ l) (h3 : kd ∉ l) (h4 : fk ∉ l) : ChkAt K H' C c dx ra kd fk rows κ fs n := by
  obtain ⟨kk, k1, k2, k3⟩ := h.kds
  obtain ⟨ff, f1, f2, f3⟩ := h.fks
  exact ⟨s.oth c _ h1 rfl h.ins, h.rws.step s hl h2, ⟨kk, s.oth kd _ h3 rfl k1, k2, k3⟩, ⟨ff, s.oth fk _ h4 rfl f1, f2, f3⟩, h.ne1, h.ne2, h.ne3⟩
theorem ChkAt.same {K : PySem.W.Frag} {H H' : Hp} {C c dx ra kd fk : Addr} {rows : Rows} {κ : Str → Kd} {fs : List Str} {n : Nat} (h : ChkAt K H C c dx ra kd fk rows κ fs n) (s : Same H H') : ChkAt K H' C c dx ra kd fk rows κ fs n :=
  h.step (nt := true) (l := []) (.of s) (by simp) (by simp) (by simp) (by simp) (by simp)
theorem ChkAt.mono {K : PySem.W.Frag} {H : Hp} {C c dx ra kd fk : Addr} {rows : Rows} {κ : Str → Kd} {fs : List Str} {n m : Nat} (h : ChkAt K H C c dx ra kd fk rows κ fs n) (hm : n ≤ m) : ChkAt K H C c dx ra kd fk rows κ fs m := by
  obtain ⟨kk, k1, k2, k3⟩ := h.kds
  obtain ⟨ff, f1, f2, f3⟩ := h.fks
  exact ⟨h.ins, h.rws, ⟨kk, k1, k2, Nat.le_trans k3 hm⟩, ⟨ff, f1, f2, Nat.le_trans f3 hm⟩, h.ne1, h.ne2, h.ne3⟩
theorem ne_kind {H : Hp} {a b : Addr} {u v : HO} (h1 : H a = some u) (h2 : H b = some v) (h : u ≠ v) : a ≠ b := fun z => by
  rw [z, h2] at h1
  cases h1
  exact h rfl
theorem nol_dK {H : Hp} {b : Addr} {kvs : List (Key × V)} (h : H b = some (.dK kvs)) : noLst H b := noLst_of h (fun _ z => by cases z) (fun _ _ z => by cases z)
theorem ChkAt.putK {K : PySem.W.Frag} {H : Hp} {C c dx ra kd fk : Addr} {rows : Rows} {κ : Str → Kd} {fs : List Str} {n : Nat} {kk : List (Key × V)} (h : ChkAt K H C c dx ra kd fk rows κ fs n) (hk : KindsOk kk κ) (hl : kk.length ≤ n + 1) :
    ChkAt K (upd H kd (.dK kk)) C c dx ra kd fk rows κ fs (n + 1) ∧ Step [kd] H (upd H kd (.dK kk)) := by
  obtain ⟨kk0, k1, k2, k3⟩ := h.kds
  obtain ⟨ff, f1, f2, f3⟩ := h.fks
  have s : Step [kd] H (upd H kd (.dK kk)) := .put k1 rfl
  exact ⟨⟨s.oth c _ (by simpa using ne_kind h.ins k1 (by intro z; cases z)) rfl h.ins, h.rws.step s (by simpa using nol_dK k1) (by simpa using h.ne2), ⟨kk, upd_same, hk, hl⟩, ⟨ff, s.oth fk _ (by simpa using h.ne1.symm) rfl f1, f2, by omega⟩, h.ne1, h.ne2, h.ne3⟩, s⟩
theorem ChkAt.putF {K : PySem.W.Frag} {H : Hp} {C c dx ra kd fk : Addr} {rows : Rows} {κ : Str → Kd} {fs fs' : List Str} {n : Nat} {ff : List (Key × V)} (h : ChkAt K H C c dx ra kd fk rows κ fs n) (hk : ∀ x, (valV ff (Sum.inr x)).isSome = decide (x ∈ fs')) (hl : ff.length ≤ n + 1) :
    ChkAt K (upd H fk (.dK ff)) C c dx ra kd fk rows κ fs' (n + 1) ∧ Step [fk] H (upd H fk (.dK ff)) := by
  obtain ⟨kk, k1, k2, k3⟩ := h.kds
  obtain ⟨ff0, f1, f2, f3⟩ := h.fks
  have s : Step [fk] H (upd H fk (.dK ff)) := .put f1 rfl
  exact ⟨⟨s.oth c _ (by simpa using ne_kind h.ins f1 (by intro z; cases z)) rfl h.ins, h.rws.step s (by simpa using nol_dK f1) (by simpa using h.ne3), ⟨kk, s.oth kd _ (by simpa using h.ne1) rfl k1, k2, by omega⟩, ⟨ff, upd_same, hk, hl⟩, h.ne1, h.ne2, h.ne3⟩, s⟩
section
variable {P : Program} {w : World} {K : PySem.W.Frag} {mg : Str → Option Value} {base : Heap} {f : Addr} {fd : FuncData} {C : Addr}
abbrev s_Checker_problem_of_thread : Stmt := inClass (top 20) 4
theorem sc_Checker_problem_of_thread : FnScope ["self", "thread", "word", "name", "is_other"] ["self", "thread", "word", "name"] (defScope s_Checker_problem_of_thread) := ⟨rfl, rfl, rfl, by decide +kernel, rfl, by decide +kernel, by decide +kernel⟩
def spPT (K : PySem.W.Frag) (C : Addr) : Sp := fun vs H Q _ => ∃ (c dx ra kd fk : Addr) (rows : Rows) (κ : Str → Kd) (fs : List Str) (n : Nat) (t wd x : Str), vs = [.ref c, .str t, .str wd, .str x] ∧ ChkAt K H C c dx ra kd fk rows κ fs n ∧ n < 1000 ∧
  (wd = "fork" ∨ wd = "join") ∧ x ≠ t ∧ (∃ es, rows.lookup x = some es ∧ (∀ e' ∈ es, e'.ok) ∧ (wd = "join" → endsB es = true)) ∧ (wd = "fork" → x ∉ fs) ∧
  ∀ H', Step [fk] H H' → ChkAt K H' C c dx ra kd fk rows κ ((if wd = "fork" then [x] else []) ++ fs) (n + 1) → Q (.str "") H'
theorem ok_problem_of_thread (F : Fun K "problem_of_thread" "Checker.problem_of_thread" s_Checker_problem_of_thread f fd) (T : Gb K mg) (TC : ChkC K C) (cEnds : C0 P w K mg base 1 "does_end" ["row"] (spEnds K)) :
    FnOk P w K mg base CX0 2 f fd ["self", "thread", "word", "name"] (spPT K C) := by
  obtain ⟨_, _, cEnds⟩ := cEnds
  refine F.ok sc_Checker_problem_of_thread (fun vs H Q E h => ?_) (fun cdv A outer s H vs Q E hr h => ?_)
  · obtain ⟨c, dx, ra, kd, fk, rows, κ, fs, n, t, wd, x, rfl, _⟩ := h
    rfl
  · obtain ⟨c, dx, ra, kd, fk, rows, κ, fs, n, t, wd, x, rfl, hc, hn, hw, hxt, ⟨es, he, hok, hj⟩, hf, k⟩ := h
    have hu := hu_of hr
    refine ⟨_, pss_cons (ps_set (i := 4) sc_Checker_problem_of_thread.nd rfl (Or.inl rfl) (pe_and (pe_cmpR op_ne (pv 3) (pv 1) (nomark _)) (pe_one (pe_cmp (pc_din hu (pv 3) (pe_fld (pv 0) rfl)) rfl))))
    (pss_cons (ps_if (pt_cmpR op_eq (pv 2) pe_str (nomark _)) (pss_cons (ps_if (PW.pt (pw_or (pt_not (pt_val (pv 4))) (pw_or1 (pt_cmp (pc_din hu (pv 3) (pe_fld (pv 0) rfl)))))) (pss_one (ps_ret pe_str)) (pss_nil))
    (pss_cons (ps_dput hu (pe_fld (pv 0) rfl) (pv 3) pe_bl rfl)
    (pss_one (ps_ret pe_str)))) (pss_nil))
    (pss_one (ps_ret (pe_ifExp (PW.pt (pw_and (pt_val (pv 4)) (pw_and1 (pt_val (pe_call cEnds.ok (hr.mono (by decide)) (by rfl) cEnds.mg cEnds.kp cEnds.bd .nil pass0 (pa_cons (pe_dget hu (pe_fld (pv 0) rfl) (pv 3) (fun _ _ => rfl)) pa_nil)))))) pe_str pe_str)))), ?_⟩
    obtain ⟨kvs, r1, r2⟩ := hc.rws
    obtain ⟨kk, k1, k2, k3⟩ := hc.kds
    obtain ⟨ff, f1, f2, f3⟩ := hc.fks
    obtain ⟨v, hv, hrow⟩ := (rws_val (x := x) r2).1 es he
    refine st_asg ?_
    refine ⟨_, rfl, _, rfl, rfl, _, rfl, ?_⟩
    refine ifNT (fun z => hxt (V.str.inj z)) ?_
    refine ⟨_, rfl, _, rfl, c, C, dx, _, _, rfl, hc.ins, TC.cl, TC.n1, rfl, ra, _, rfl, DGet.k (k := Sum.inr x) r1, ?_⟩
    rw [hv]
    refine st_if ?_
    refine ⟨_, rfl, rfl, _, rfl, ?_⟩
    by_cases hfk : wd = "fork"
    · refine ifT (by rw [hfk]) ?_
      refine st_if ?_
      refine ⟨_, rfl, true, rfl, iteF ?_⟩
      refine ⟨_, rfl, _, rfl, c, C, dx, _, _, rfl, hc.ins, TC.cl, TC.n3, rfl, fk, _, rfl, DGet.k (k := Sum.inr x) f1, _, rfl, ?_⟩
      rw [f2 x]
      refine ifF (hf hfk) ?_
      refine st_nx ?_
      dsimp only
      refine st_dput ?_
      refine ⟨_, rfl, c, C, dx, _, _, rfl, hc.ins, TC.cl, TC.n3, rfl, _, rfl, fk, _, rfl, DPut.k (k := Sum.inr x) f1 (Nat.lt_of_le_of_lt (Nat.le_trans f3 (Nat.le_of_lt hn)) (by decide)), ?_⟩
      obtain ⟨q1, q2⟩ := hc.putF (fs' := [x] ++ fs) (ff := putK ff (Sum.inr x) (.bl true)) (fun y => by
        rw [valV_put]
        by_cases e : y = x
        · rw [if_pos (by rw [e])]
          simp [e]
        · rw [if_neg (fun z => e (Sum.inr.inj z)), f2 y]
          simp [e]) (Nat.le_trans (length_putK _ _ _) (by omega))
      refine k _ q2 ?_
      rw [if_pos hfk]
      exact q1
    · refine ifF (fun z => hfk (V.str.inj z)) ?_
      have hj2 : wd = "join" := hw.resolve_left hfk
      refine st_nx ?_
      dsimp only
      refine st_ret ?_
      refine ⟨_, rfl, true, rfl, iteT ?_⟩
      refine ⟨_, rfl, c, C, dx, _, _, rfl, hc.ins, TC.cl, TC.n1, rfl, _, rfl, ra, _, rfl, by rw [← hv]; exact DGet.k (k := Sum.inr x) r1, ?_⟩
      refine ⟨v, es, rfl, hrow, hok, fun H' s' => ?_⟩
      rw [hj hj2]
      refine ⟨_, rfl, iteT ?_⟩
      refine k H' (.of s') ?_
      rw [if_neg hfk]
      exact (hc.same s').mono (Nat.le_succ _)
end
end Lg

namespace Lg
open PySem L2 TL
/-- a method of the class at C -/
structure CalM (P : Program) (w : World) (K : PySem.W.Frag) (mg : Str → Option Value) (base : Heap) (CX : CXT) (k : Nat) (C : Addr) (m : Str) (f : Addr) (fd : FuncData) (ps : List Str) (sp : Sp) : Prop where
  ok : FnOk P w K mg base CX k f fd ps sp
  me : Meth K C m f
  bd : Binds K fd ps []
abbrev M0 (P : Program) (w : World) (K : PySem.W.Frag) (mg : Str → Option Value) (base : Heap) (k : Nat) (C : Addr) (m : Str) (ps : List Str) (sp : Sp) : Prop := ∃ f fd, CalM P w K mg base CX0 k C m f fd ps sp
theorem kd_ok {e : Ev} (h : e.ok) (hk : kdOf e.w ≠ .lone) : ∃ x, e.o = some x ∧ nameOk x = true := by
  unfold Ev.ok at h
  cases q : kdOf e.w with
  | lone => exact absurd q hk
  | cell => rw [q] at h; exact h.1
  | lock => rw [q] at h; exact h.1
  | counter => rw [q] at h; exact h.1
  | thread => rw [q] at h; exact h.1
theorem kd_thr {x : Str} (h : kdOf x = .thread) : x = "fork" ∨ x = "join" := by
  unfold kdOf at h
  by_cases h1 : x ∈ wCell
  · rw [if_pos h1] at h; cases h
  rw [if_neg h1] at h
  by_cases h2 : x ∈ wLock
  · rw [if_pos h2] at h; cases h
  rw [if_neg h2] at h
  by_cases h3 : x ∈ wCnt
  · rw [if_pos h3] at h; cases h
  rw [if_neg h3] at h
  by_cases h4 : x ∈ wThr
  · simpa [wThr] using h4
  · rw [if_neg h4] at h; cases h
theorem fork_kd {e : Ev} (h : kdOf e.w ≠ .thread) : forkE e = [] := by
  unfold forkE
  rw [if_neg fun z => h (by rw [z]; rfl)]
section
variable {P : Program} {w : World} {K : PySem.W.Frag} {mg : Str → Option Value} {base : Heap} {f : Addr} {fd : FuncData} {C : Addr}
abbrev s_Checker_problem_of : Stmt := inClass (top 20) 3
theorem sc_Checker_problem_of : FnScope ["self", "thread", "at", "event", "held", "word", "name", "value", "kind"] ["self", "thread", "at", "event", "held"] (defScope s_Checker_problem_of) := ⟨rfl, rfl, rfl, by decide +kernel, rfl, by decide +kernel, by decide +kernel⟩
def spPr (K : PySem.W.Frag) (C : Addr) : Sp := fun vs H Q _ => ∃ (c dx ra kd fk hd : Addr) (rows : Rows) (κ : Str → Kd) (fs : List Str) (n : Nat) (t : Str) (es : List Ev) (at' : Nat) (v : V) (e : Ev) (hk : List (Key × V)) (h h' : Str → Option Str),
  vs = [.ref c, .str t, .int at', v, .ref hd] ∧ ChkAt K H C c dx ra kd fk rows κ fs n ∧ n + 2 < 1000 ∧ EvAt K H v e ∧ rows.lookup t = some es ∧ EvGood rows κ t es.length at' e ∧ H hd = some (.dK hk) ∧ HeldIs hk h ∧ hk.length ≤ n ∧ hd ≠ ra ∧ hd ≠ kd ∧ hd ≠ fk ∧
  heldE h e = some h' ∧ (∀ x ∈ forkE e, x ∉ fs) ∧
  ∀ H' hk', Step [kd, fk, hd] H H' → ChkAt K H' C c dx ra kd fk rows κ (forkE e ++ fs) (n + 2) → H' hd = some (.dK hk') → HeldIs hk' h' → hk'.length ≤ n + 2 → Q (.str "") H'
theorem ok_problem_of (F : Fun K "problem_of" "Checker.problem_of" s_Checker_problem_of f fd) (T : Gb K mg) (TC : ChkC K C) (cEvent : C0 P w K mg base 2 "is_event" ["thing"] (spEvent K)) (cKind : C0 P w K mg base 1 "kind_of" ["word"] spKind)
    (cHeld : C0 P w K mg base 1 "is_held_right" ["held", "word", "name"] spHeld) (mPT : M0 P w K mg base 2 C "problem_of_thread" ["self", "thread", "word", "name"] (spPT K C)) :
    FnOk P w K mg base CX0 3 f fd ["self", "thread", "at", "event", "held"] (spPr K C) := by
  obtain ⟨_, _, cEvent⟩ := cEvent
  obtain ⟨_, _, cKind⟩ := cKind
  obtain ⟨_, _, cHeld⟩ := cHeld
  obtain ⟨_, _, mPT⟩ := mPT
  refine F.ok sc_Checker_problem_of (fun vs H Q E h => ?_) (fun cdv A outer s H vs Q E hr h => ?_)
  · obtain ⟨c, dx, ra, kd, fk, hd, rows, κ, fs, n, t, es, at', v, e, hk, h, h', rfl, _⟩ := h
    rfl
  · obtain ⟨c, dx, ra, kd, fk, hd, rows, κ, fs, n, t, es, at', v, e, hk, h, h', rfl, hc, hn, hev, hes, hg, hhd, hhi, hhl, ne1, ne2, ne3, hst, hfk, k⟩ := h
    have hu := hu_of hr
    refine ⟨_, pss_cons (ps_if (pt_not (pt_val (pe_call cEvent.ok (hr.mono (by decide)) (by rfl) cEvent.mg cEvent.kp cEvent.bd .nil pass0 (pa_cons (pv 3) pa_nil)))) (pss_one (ps_ret pe_str)) (pss_nil))
    (pss_cons (ps_asg (pv 3) (pg_tup rfl (pgs_cons (pg_name (i := 5) sc_Checker_problem_of.nd rfl (Or.inl rfl)) (pgs_cons (pg_name (i := 6) sc_Checker_problem_of.nd rfl (Or.inl rfl)) (pgs_cons (pg_name (i := 7) sc_Checker_problem_of.nd rfl (Or.inl rfl)) pgs_nil)))))
    (pss_cons (ps_set (i := 8) sc_Checker_problem_of.nd rfl (Or.inl rfl) (pe_call cKind.ok (hr.mono (by decide)) (by rfl) cKind.mg cKind.kp cKind.bd .nil pass0 (pa_cons (pv 5) pa_nil)))
    (pss_cons (ps_if (PW.pt (pw_and (pt_cmpR op_ne (pv 8) pe_str (nomark _)) (pw_and1 (pt_cmpR op_ne (pe_dsetd (pe_fld (pv 0) rfl) (pv 6) (pv 8) (by exact ⟨rfl, rfl, rfl, rfl⟩)) (pv 8) (nomark _))))) (pss_one (ps_ret pe_str)) (pss_nil))
    (pss_cons (ps_if (pt_cmpR op_eq (pv 8) pe_str (nomark _)) (pss_one (ps_ret (pe_ifExp (pt_val (pe_call cHeld.ok (hr.mono (by decide)) (by rfl) cHeld.mg cHeld.kp cHeld.bd .nil pass0 (pa_cons (pv 4) (pa_cons (pv 5) (pa_cons (pv 6) pa_nil))))) pe_str pe_str))) (pss_nil))
    (pss_cons (ps_if (pt_cmpR op_eq (pv 8) pe_str (nomark _)) (pss_one (ps_ret (pe_meth (pv 0) TC.cl mPT.me mPT.ok (hr.mono (by decide)) mPT.bd .nil pass0 (pa_cons (pv 1) (pa_cons (pv 5) (pa_cons (pv 6) pa_nil)))))) (pss_nil))
    (pss_cons (ps_if (PW.pt (pw_and (pt_cmpR op_eq (pv 5) pe_str (nomark _)) (pw_and1 (pt_cmpR op_ne (pv 2) (pe_op op_sub (pe_callB call_len_seq (by rfl) T.m_len PySem.boot_len (pa_cons (pe_dget hu (pe_fld (pv 0) rfl) (pv 1) (fun _ _ => rfl)) pa_nil)) pe_int) (nomark _))))) (pss_one (ps_ret pe_str)) (pss_nil))
    (pss_one (ps_ret pe_str)))))))), ?_⟩
    refine st_if ?_
    refine ⟨_, rfl, v, e, rfl, hev, hg.ok, fun H1 s1 => ⟨_, rfl, iteF ?_⟩⟩
    refine st_nx ?_
    dsimp only
    replace hc := hc.same s1
    replace hev := hev.same s1
    replace hhd := s1 _ _ hhd
    obtain ⟨tv, zv, rfl, ht, hz⟩ := hev
    refine st_asgG ?_
    refine ⟨_, rfl, tv, _, rfl, ht, rfl, _, _, rfl, _, _, rfl, _, _, rfl, rfl, ?_⟩
    refine st_asg ?_
    refine ⟨_, rfl, _, rfl, ?_⟩
    obtain ⟨kk, k1, k2, k3⟩ := hc.kds
    refine st_ifW (fun H2 => Step [kd] H1 H2 ∧ ChkAt K H2 C c dx ra kd fk rows κ fs (n + 1)) (fun R hR => ?_) (fun H2 ⟨s2, hc2⟩ => ?_)
    · refine ⟨_, rfl, rfl, _, rfl, ?_⟩
      by_cases hl : kdOf e.w = .lone
      · refine iteNS (by rw [hl]; rfl) ?_
        exact iteF (hR _ ⟨.refl _ _, hc.mono (Nat.le_succ _)⟩)
      · refine ifNT (fun z => hl (kd_str (b := .lone) (V.str.inj z))) ?_
        obtain ⟨x, hx, hnx⟩ := kd_ok hg.ok hl
        have hκ := hg.kind hl x hx
        refine ⟨_, rfl, c, C, dx, _, _, rfl, hc.ins, TC.cl, TC.n2, rfl, kd, rfl, .inl ⟨kk, .inl k1⟩, _, rfl, _, rfl, kk, Sum.inr x, k1, by rw [hx]; rfl, Nat.lt_of_le_of_lt (Nat.le_trans k3 (show n ≤ 1000 by omega)) (by decide), fun v' hv' => ?_, fun hv' => ?_⟩
        · refine ⟨_, rfl, ?_⟩
          rw [k2 x v' hv', hκ]
          exact ⟨rfl, _, rfl, iteNS rfl (hR _ ⟨.refl _ _, hc.mono (Nat.le_succ _)⟩)⟩
        · refine ⟨_, rfl, rfl, _, rfl, iteNS rfl ?_⟩
          obtain ⟨q1, q2⟩ := hc.putK (kk := putK kk (Sum.inr x) (.str (kdOf e.w).str)) (fun y u hy => by
            rw [valV_put] at hy
            by_cases e1 : y = x
            · rw [if_pos (by rw [e1])] at hy
              cases hy
              rw [e1, hκ]
            · rw [if_neg (fun z => e1 (Sum.inr.inj z))] at hy
              exact k2 y u hy) (Nat.le_trans (length_putK _ _ _) (by omega))
          exact hR _ ⟨q2, q1⟩
    · have nkd : hd ∉ [kd] := by simpa using ne2
      have hhd2 := s2.oth hd _ nkd rfl hhd
      have st1 : Step [kd, fk, hd] H H2 := (StepB.of s1).trans (s2.wide (by simp))
      refine st_if ?_
      refine ⟨_, rfl, rfl, _, rfl, ?_⟩
      by_cases hlk : kdOf e.w = .lock
      · refine ifT (by rw [hlk]; rfl) ?_
        obtain ⟨x, hx, hnx⟩ := kd_ok hg.ok (by rw [hlk]; intro z; cases z)
        refine st_ret ?_
        unfold heldE at hst
        rw [hlk, hx] at hst
        refine ⟨_, rfl, _, rfl, _, rfl, hd, e.w, x, hk, h, h', by rw [hx]; rfl, hhd2, by omega, hhi, hst, fun hk' H3 bt h3 h4 h5 => ⟨_, rfl, iteT ?_⟩⟩
        have s3 : Step [hd] H2 H3 := ⟨fun t' u hu' e' => bt t' u (fun z => by
          have z : t' = hd := by simpa using z
          rw [z, hhd2] at e'
          cases e'
          cases hu') e', fun b u hb _ e' => bt b u hb e', fun _ b ps e' => bt b _ (fun z => by
          have z : b = hd := by simpa using z
          rw [z, hhd2] at e'
          cases e') e'⟩
        have hcf : forkE e = [] := fork_kd (by rw [hlk]; intro z; cases z)
        refine k H3 hk' (st1.trans (s3.wide (by simp))) ?_ h3 h4 (by omega)
        rw [hcf]
        exact (hc2.step s3 (by simpa using nol_dK hhd2) (by simpa using ne_kind hc2.ins hhd2 (by intro z; cases z)) (by simpa using ne1.symm) (by simpa using ne2.symm) (by simpa using ne3.symm)).mono (Nat.le_succ _)
      · refine ifF (fun z => hlk (kd_str (b := .lock) (V.str.inj z))) ?_
        refine st_nx ?_
        dsimp only
        have hst2 : h' = h := by
          unfold heldE at hst
          cases q : kdOf e.w with
          | lock => exact absurd q hlk
          | lone => rw [q] at hst; exact (Option.some.inj hst).symm
          | cell => rw [q] at hst; exact (Option.some.inj hst).symm
          | counter => rw [q] at hst; exact (Option.some.inj hst).symm
          | thread => rw [q] at hst; exact (Option.some.inj hst).symm
        subst hst2
        refine st_if ?_
        refine ⟨_, rfl, rfl, _, rfl, ?_⟩
        by_cases hth : kdOf e.w = .thread
        · refine ifT (by rw [hth]; rfl) ?_
          obtain ⟨x, hx, hnx⟩ := kd_ok hg.ok (by rw [hth]; intro z; cases z)
          refine st_ret ?_
          obtain ⟨hxt, es', he', hok', hj'⟩ := hg.thr hth x hx
          refine ⟨_, rfl, c, dx, _, rfl, hc2.ins, rfl, _, rfl, _, rfl, _, rfl, ?_⟩
          refine ⟨c, dx, ra, kd, fk, rows, κ, fs, n + 1, t, e.w, x, by rw [hx]; rfl, hc2, by omega, kd_thr hth, hxt, ⟨es', he', hok', hj'⟩, fun hf => hfk x (by unfold forkE; rw [if_pos hf, hx]; simp), fun H3 s3 hc3 => ?_⟩
          refine k H3 hk (st1.trans (s3.wide (by simp))) ?_ (s3.oth hd _ (by simpa using ne3) rfl hhd2) hhi (by omega)
          have e4 : forkE e = if e.w = "fork" then [x] else [] := by
            unfold forkE
            rw [hx]
            rfl
          rw [e4]
          exact hc3
        · refine ifF (fun z => hth (kd_str (b := .thread) (V.str.inj z))) ?_
          refine st_nx ?_
          dsimp only
          have hcf : forkE e = [] := fork_kd hth
          refine st_ifW (fun H3 => H3 = H2) (fun R hR => ?_) (fun H3 e3 => ?_)
          · refine ⟨_, rfl, rfl, _, rfl, ?_⟩
            by_cases hend : e.w = "end"
            · refine ifT (by rw [hend]) ?_
              obtain ⟨kvs, r1, r2⟩ := hc2.rws
              obtain ⟨vr, hvr, a, xs, rfl, ha, hp⟩ := (rws_val (x := t) r2).1 es hes
              refine ⟨_, rfl, _, rfl, c, C, dx, _, _, rfl, hc2.ins, TC.cl, TC.n1, rfl, _, rfl, ra, _, rfl, by rw [← hvr]; exact DGet.k (k := Sum.inr t) r1, ?_⟩
              refine ⟨a, xs, rfl, ha, _, _, rfl, rfl, rfl, _, rfl, ?_⟩
              refine iteNS ?_ (hR _ rfl)
              have e5 := hg.last hend
              have e6 : xs.length = es.length := Paired.length hp
              rw [e6, ← e5]
              congr 1
              omega
            · refine ifF (fun z => hend (V.str.inj z)) ?_
              exact iteF (hR _ rfl)
          · subst e3
            refine st_ret ?_
            refine k H3 hk st1 ?_ hhd2 hhi (by omega)
            rw [hcf]
            exact hc2.mono (Nat.le_succ _)
end
end Lg

namespace Lg
open PySem L2 TL
/-- the forks of a row are new -/
def FreshF (fs : List Str) (es : List Ev) : Prop := ∀ i e, es[i]? = some e → ∀ x ∈ forkE e, x ∉ fs ∧ x ∉ (es.take i).flatMap forkE
/-- the locks of a row: taken when free, given back when held -/
def HeldRow (es : List Ev) : Prop := ∃ hs : Nat → Str → Option Str, hs 0 = (fun _ => none) ∧ ∀ i e, es[i]? = some e → heldE (hs i) e = some (hs (i + 1))
/-- what holds of a row -/
structure RowGood (rows : Rows) (κ : Str → Kd) (t : Str) (es : List Ev) : Prop where
  nm : nameOk t = true
  ev : ∀ i e, es[i]? = some e → EvGood rows κ t es.length i e
  held : HeldRow es
theorem paired_at {α β : Type} {R : α → β → Prop} : ∀ {as : List α} {bs : List β} {i : Nat} {a : α}, Paired R as bs → as[i]? = some a → ∃ b, bs[i]? = some b ∧ R a b
  | _, _, _, _, .nil, e => by simp at e
  | _, _, 0, _, .cons h _, e => by
    simp at e
    subst e
    exact ⟨_, rfl, h⟩
  | _, _, i + 1, a, .cons _ t, e => by
    obtain ⟨b, h1, h2⟩ := paired_at (i := i) t (by simpa using e)
    exact ⟨b, by simpa using h1, h2⟩
theorem ne_none {H : Hp} {a b : Addr} {u : HO} (h1 : H a = some u) (h2 : H b = none) : b ≠ a := fun z => by
  rw [z, h1] at h2
  cases h2
section
variable {P : Program} {w : World} {K : PySem.W.Frag} {mg : Str → Option Value} {base : Heap} {f : Addr} {fd : FuncData} {C : Addr}
abbrev s_Checker_check_thread : Stmt := inClass (top 20) 2
theorem sc_Checker_check_thread : FnScope ["self", "thread", "held", "at", "event", "why"] ["self", "thread"] (defScope s_Checker_check_thread) := ⟨rfl, rfl, rfl, by decide +kernel, rfl, by decide +kernel, by decide +kernel⟩
def spCT (K : PySem.W.Frag) (C : Addr) : Sp := fun vs H Q _ => ∃ (c dx ra kd fk : Addr) (rows : Rows) (κ : Str → Kd) (fs : List Str) (n : Nat) (t : Str) (es : List Ev),
  vs = [.ref c, .str t] ∧ ChkAt K H C c dx ra kd fk rows κ fs n ∧ n + 2 * es.length < 900 ∧ rows.lookup t = some es ∧ RowGood rows κ t es ∧ FreshF fs es ∧
  ∀ H' fs', Step [kd, fk] H H' → ChkAt K H' C c dx ra kd fk rows κ fs' (n + 2 * es.length) → (∀ x, x ∈ fs' ↔ x ∈ fs ∨ x ∈ es.flatMap forkE) → Q .non H'
theorem ok_check_thread (F : Fun K "check_thread" "Checker.check_thread" s_Checker_check_thread f fd) (T : Gb K mg) (TC : ChkC K C) (cName : C0 P w K mg base 1 "is_name" ["thing"] spName)
    (mPr : M0 P w K mg base 3 C "problem_of" ["self", "thread", "at", "event", "held"] (spPr K C)) :
    FnOk P w K mg base CX0 4 f fd ["self", "thread"] (spCT K C) := by
  obtain ⟨_, _, cName⟩ := cName
  obtain ⟨_, _, mPr⟩ := mPr
  refine F.ok sc_Checker_check_thread (fun vs H Q E h => ?_) (fun cdv A outer s H vs Q E hr h => ?_)
  · obtain ⟨c, dx, ra, kd, fk, rows, κ, fs, n, t, es, rfl, _⟩ := h
    rfl
  · obtain ⟨c, dx, ra, kd, fk, rows, κ, fs, n, t, es, rfl, hc, hn, hes, hg, hf, k⟩ := h
    have hu := hu_of hr
    refine ⟨_, pss_cons (ps_if (pt_not (pt_val (pe_call cName.ok (hr.mono (by decide)) (by rfl) cName.mg cName.kp cName.bd .nil pass0 (pa_cons (pv 1) pa_nil)))) (pss_one (ps_never)) (pss_nil))
    (pss_cons (ps_set (i := 2) sc_Checker_check_thread.nd rfl (Or.inl rfl) pe_dnewK)
    (pss_one (ps_for PassesOwn.never rfl (EnT.pi_enumA (by rfl) T.m_enumerate (pa_cons (pe_dget hu (pe_fld (pv 0) rfl) (pv 1) (fun _ _ => rfl)) pa_nil)) (pg_tup rfl (pgs_cons (pg_name (i := 3) sc_Checker_check_thread.nd rfl (Or.inl rfl)) (pgs_cons (pg_name (i := 4) sc_Checker_check_thread.nd rfl (Or.inl rfl)) pgs_nil)))
      (pss_cons (ps_set (i := 5) sc_Checker_check_thread.nd rfl (Or.inl rfl) (pe_meth (pv 0) TC.cl mPr.me mPr.ok (hr.mono (by decide)) mPr.bd .nil pass0 (pa_cons (pv 1) (pa_cons (pv 3) (pa_cons (pv 4) (pa_cons (pv 2) pa_nil))))))
    (pss_one (ps_if (pt_cmpR op_ne (pv 5) pe_str (nomark _)) (pss_one (ps_never)) (pss_nil))))))), ?_⟩
    obtain ⟨hs, hs0, hsn⟩ := hg.held
    refine st_ifW (fun H1 => Same H H1) (fun R hR => ?_) (fun H1 s1 => ?_)
    · refine ⟨_, rfl, t, rfl, name_len' hg.nm, fun H1 s1 => ?_⟩
      rw [hg.nm]
      exact ⟨_, rfl, iteF (hR _ s1)⟩
    refine st_asg ?_
    refine fun hd hhd => ?_
    have s2 : Same H (upd H1 hd (.dK [])) := s1.trans (same_new hhd)
    have hd2 : (upd H1 hd (.dK [])) hd = some (.dK []) := upd_same
    have c1 := hc.same s1
    have c2 := hc.same s2
    have n1 : hd ≠ c := ne_none c1.ins hhd
    have n2 : hd ≠ ra := let ⟨_, q, _⟩ := c1.rws; ne_none q hhd
    have n3 : hd ≠ kd := let ⟨_, q, _⟩ := c1.kds; ne_none q hhd
    have n4 : hd ≠ fk := let ⟨_, q, _⟩ := c1.fks; ne_none q hhd
    have n5 : H hd = none := s1.free hhd
    generalize upd H1 hd (.dK []) = H2 at s2 hd2 c2 ⊢
    obtain ⟨kvs, r1, r2⟩ := c2.rws
    obtain ⟨vr, hvr, a, xs, rfl, ha, hp⟩ := (rws_val (x := t) r2).1 es hes
    have hlen : xs.length = es.length := Paired.length hp
    refine ⟨_, rfl, c, C, dx, _, _, rfl, c2.ins, TC.cl, TC.n1, rfl, _, rfl, ra, _, rfl, by rw [← hvr]; exact DGet.k (k := Sum.inr t) r1, ?_⟩
    refine ⟨a, xs, rfl, ha, fun J hJ => ?_⟩
    obtain ⟨G, wk, hG⟩ := EnT.walk_enumA hJ
    refine for_it wk (fun i σ H' => (∃ w1 w2 w3 : Option V, σ = [some (.ref c), some (.str t), some (.ref hd), w1, w2, w3]) ∧ i ≤ es.length ∧ Step [kd, fk, hd] H2 H' ∧
      (∃ fs', ChkAt K H' C c dx ra kd fk rows κ fs' (n + 2 * i) ∧ ∀ x, x ∈ fs' ↔ x ∈ fs ∨ x ∈ (es.take i).flatMap forkE) ∧ ∃ hk, H' hd = some (.dK hk) ∧ HeldIs hk (hs i) ∧ hk.length ≤ n + 2 * i)
      ⟨⟨_, _, _, rfl⟩, Nat.zero_le _, .refl _ _, ⟨fs, c2, fun x => by simp⟩, [], hd2, fun x => by rw [hs0]; rfl, Nat.zero_le _⟩ ?_ ?_ ?_
    · rintro i σ H' _ ⟨_, _, st, _⟩
      have nl : ∀ b ∈ [kd, fk, hd], noLst H2 b := by
        obtain ⟨_, q1, _⟩ := c2.kds
        obtain ⟨_, q2, _⟩ := c2.fks
        intro b hb
        simp at hb
        rcases hb with rfl | rfl | rfl
        · exact nol_dK q1
        · exact nol_dK q2
        · exact nol_dK hd2
      exact hG H' (fun q => sql_step st nl q) (fun q => sqt_step st q)
    · rintro i v σ H3 H4 hi ⟨⟨w1, w2, w3, rfl⟩, hile, st, ⟨fs', c3, hfs⟩, hk, hk1, hk2, hk3⟩ ⟨Tp, y1, y2, rfl, hTp, rfl, e1, e2⟩
      cases e1
      obtain ⟨e, hei, hev⟩ := paired_at hp e2
      refine ⟨Tp, _, rfl, SqT.of upd_same, rfl, _, _, rfl, _, _, rfl, rfl, ?_⟩
      have st4 : Step [kd, fk, hd] H2 (upd H3 Tp (.tup [.int (i : Nat), y2])) := st.trans (.new hTp)
      have c4 := c3.same (same_new (o := .tup [.int (i : Nat), y2]) hTp)
      have hk4 := same_new (o := .tup [.int (i : Nat), y2]) hTp _ _ hk1
      generalize upd H3 Tp (.tup [.int (i : Nat), y2]) = H5 at st4 c4 hk4 ⊢
      refine st_asg ?_
      refine ⟨_, rfl, c, dx, _, rfl, c4.ins, rfl, _, rfl, _, rfl, _, rfl, _, rfl, ?_⟩
      have hil : i < es.length := hlen ▸ hi
      refine ⟨c, dx, ra, kd, fk, hd, rows, κ, fs', n + 2 * i, t, es, i, y2, e, hk, hs i, hs (i + 1), rfl, c4, by omega, hev.step st4, hes, hg.ev i e hei, hk4, hk2, hk3, n2, n3, n4, hsn i e hei, fun x hx hx2 => ?_, fun H6 hk' st6 c6 hk6 hi6 hl6 => ?_⟩
      · obtain ⟨q1, q2⟩ := hf i e hei x hx
        rcases (hfs x).mp hx2 with q | q
        · exact q1 q
        · exact q2 q
      · refine st_ifl ?_
        refine ⟨_, rfl, rfl, _, rfl, iteNS rfl ?_⟩
        refine ⟨⟨_, _, _, rfl⟩, hil, st4.trans st6, ⟨_, c6, fun x => ?_⟩, hk', hk6, hi6, by omega⟩
        rw [List.mem_append, hfs x, List.take_add_one, hei, List.flatMap_append, List.mem_append]
        have e9 : (some e).toList.flatMap forkE = forkE e := by simp
        rw [e9]
        constructor
        · intro h9
          rcases h9 with h9 | h9 | h9 <;> simp [h9]
        · intro h9
          rcases h9 with h9 | h9 | h9 <;> simp [h9]
    · rintro σ H' ⟨_, _, st, ⟨fs', c3, hfs⟩, hk, hk1, hk2, hk3⟩
      rw [hlen] at c3 hfs
      refine k H' fs' ((StepB.of s2).then (st.wide (l' := [kd, fk, hd]) (by simp)) (by simp [n5])) c3 fun x => ?_
      rw [hfs x, List.take_of_length_le (Nat.le_refl _)]
end
end Lg

namespace Lg
open PySem L2 TL
/-- a dict's comprehension over a walk -/
theorem dc_it {J : It} {n : Nat} {G : Hp → Prop} {Y : Nat → Hp → V → Hp → Prop} (w : Walk J n G Y) {g : TG} {tt : TT} {tk tv : TE} {vs : List Nat} {σ : St} {H1 : Hp} {D : Addr} {Qd : Hp → Prop} (Pv : Nat → Hp → Prop) (h0 : Pv 0 (upd H1 D (.dK []))) (hG : ∀ i H, i ≤ n → Pv i H → G H)
    (hs : ∀ i x H H', i < n → Pv i H → Y i H x H' → g x (wipe σ vs) H' fun σ2 H2 => wipe σ2 vs = wipe σ vs ∧ tt σ2 H2 fun b H3 =>
      if b = true then tk σ2 H3 fun y H4 => tv σ2 H4 fun z H5 => ∃ kvs k, y = kV k ∧ H5 D = some (.dK kvs) ∧ kvs.length < sizeLine ∧ Pv (i + 1) (upd H5 D (.dK (putK kvs k z))) else Pv (i + 1) H3) (hd : ∀ H, Pv n H → Qd H) :
    ∃ W : Nat → Nat → Hp → Prop, (∃ m, W 0 m (upd H1 D (.dK []))) ∧ ∀ i m H, W i m H →
      (J.stop i H ∧ Qd H) ∨ (J.go i H ∧ ∃ Nx : Hp → Prop, (∀ H', Nx H' → ∃ m', m' < m ∧ W (i + 1) m' H') ∧ ∀ x H', J.yld i H x H' → g x (wipe σ vs) H' fun σ2 H2 => wipe σ2 vs = wipe σ vs ∧ tt σ2 H2 fun b H3 =>
        if b = true then tk σ2 H3 fun y H4 => tv σ2 H4 fun z H5 => ∃ kvs k, y = kV k ∧ H5 D = some (.dK kvs) ∧ kvs.length < sizeLine ∧ Nx (upd H5 D (.dK (putK kvs k z))) else Nx H3) := by
  refine ⟨fun i m H => m = n - i ∧ i ≤ n ∧ Pv i H, ⟨n, by simp, Nat.zero_le _, h0⟩, ?_⟩
  rintro i m H ⟨rfl, hi, p⟩
  have q := hG i H hi p
  by_cases hlt : i < n
  · exact .inr ⟨w.goes i H hlt q, Pv (i + 1), fun H' p' => ⟨n - (i + 1), by omega, rfl, hlt, p'⟩, fun x H' y => hs i x H H' hlt p (w.yields i H x H' hlt q y)⟩
  · have e : i = n := by omega
    subst e
    exact .inl ⟨w.stops H q, hd H p⟩
/-- a def whose code object stands at c -/
structure FunC (K : PySem.W.Frag) (x qual : Str) (st : Stmt) (f : Addr) (fd : FuncData) (c : Addr) : Prop where
  ex : ∃ (oc : Value) (od : Option Addr) (kV doc pm : Value) (an : Option Addr) (ct : Value) (osl : Array (Option Value)),
    fd = PySem.W.fnOf x qual (defArgs st) (defBody st) (defScope st) .none kV doc pm an (.ref c) ct ∧ K.lookup f = some ⟨oc, od, .func fd, osl⟩ ∧ PySem.W.codeIn K (.ref c) qual = true
section
variable {P : Program} {w : World} {K : PySem.W.Frag} {mg : Str → Option Value} {base : Heap}
theorem FunC.ok {x qual : Str} {st : Stmt} {f : Addr} {fd : FuncData} {c : Addr} {N ps : List Str} {k : Nat} {sp : Sp} (F : FunC K x qual st f fd c) (S : FnScope N ps (defScope st)) (len : ∀ vs H Q E, sp vs H Q E → vs.length = ps.length)
    (hbody : ∀ (A : Around) (outer : List Env) (s : Shared) (H : Hp) (vs : List V) (Q : VK) (E : XK), Room k (A.deeper (PyProof.Rows.envOfC qual (defScope st) s.heap.objs.size f (.ref c))) → sp vs H Q E →
      ∃ t, PSs (cxOf CX0 P w K mg base N qual (defScope st) f (.ref c) A outer s H E).nox (defBody st) t ∧ t { nx := fun _ H' => Q .non H', rt := Q } (start N vs) H) : FnOk P w K mg base CX0 (k + 1) f fd ps sp := by
  obtain ⟨oc, od, kV, doc, pm, an, ct, osl, rfl, lk, hcd⟩ := F.ex
  refine fn_of lk hcd S len fun A outer s H vs Q E hr hsp => ?_
  obtain ⟨t, h, q⟩ := hbody A outer s H vs Q E hr hsp
  exact ⟨t, h.nox, q⟩
end
/-- what holds of the rows of a log -/
structure Good (rows : Rows) (κ : Str → Kd) : Prop where
  row : ∀ t es, rows.lookup t = some es → RowGood rows κ t es
  nd : (rows.map (·.1)).Nodup
  kt : ∀ t ∈ rows.map (·.1), κ t = .thread
  forks : ((rows.map (·.2)).flatten.flatMap forkE).Nodup
  many : 1 ≤ rows.length ∧ rows.length ≤ 5
  size : (rows.map (·.2)).flatten.length ≤ 40
theorem lookup_of {rows : Rows} (h : (rows.map (·.1)).Nodup) {p : Str × List Ev} (hp : p ∈ rows) : rows.lookup p.1 = some p.2 := by
  induction rows with
  | nil => cases hp
  | cons q r ih =>
    obtain ⟨h1, h2⟩ := List.nodup_cons.mp (show (q.1 :: r.map (·.1)).Nodup from h)
    rcases List.mem_cons.mp hp with rfl | hp
    · rw [show p = (p.1, p.2) from rfl, List.lookup_cons_self]
    · have ne : (p.1 == q.1) = false := beq_eq_false_iff_ne.mpr fun z => h1 (z ▸ List.mem_map_of_mem hp)
      rw [show q = (q.1, q.2) from rfl, List.lookup_cons, ne]
      exact ih h2 hp
theorem Good.nm {rows : Rows} {κ : Str → Kd} (g : Good rows κ) {t : Str} (h : t ∈ rows.map (·.1)) : nameOk t = true := by
  obtain ⟨p, hp, rfl⟩ := List.mem_map.mp h
  exact (g.row _ _ (lookup_of g.nd hp)).nm
section
variable {P : Program} {w : World} {K : PySem.W.Frag} {mg : Str → Option Value} {base : Heap} {f : Addr} {fd : FuncData} {C : Addr}
abbrev s_Checker_init : Stmt := inClass (top 20) 0
theorem sc_Checker_init : FnScope ["self", "rows", "thread"] ["self", "rows"] (defScope s_Checker_init) := ⟨rfl, rfl, rfl, by decide +kernel, rfl, by decide +kernel, by decide +kernel⟩
def spCI (K : PySem.W.Frag) (C : Addr) : Sp := fun vs H Q _ => ∃ (c dx ra : Addr) (rows : Rows) (κ : Str → Kd), vs = [.ref c, .ref ra] ∧ H c = some (.ins C dx []) ∧ RowsAt K H ra rows ∧ Good rows κ ∧
  ∀ H' kd fk, Step [c] H H' → ChkAt K H' C c dx ra kd fk rows κ [] 5 → H kd = none → H fk = none → Q .non H'
theorem ok_checker_init (F : Fun K "__init__" "Checker.__init__" s_Checker_init f fd) (T : Gb K mg) (TC : ChkC K C) (cName : C0 P w K mg base 1 "is_name" ["thing"] spName) : FnOk P w K mg base CX0 2 f fd ["self", "rows"] (spCI K C) := by
  obtain ⟨_, _, cName⟩ := cName
  refine F.ok sc_Checker_init (fun vs H Q E h => ?_) (fun cdv A outer s H vs Q E hr h => ?_)
  · obtain ⟨c, dx, ra, rows, κ, rfl, _⟩ := h
    rfl
  · obtain ⟨c, dx, ra, rows, κ, rfl, hc, hr0, hg, k⟩ := h
    have hu := hu_of hr
    refine ⟨_, pss_cons (ps_fld (pv 0) (pv 1) rfl)
    (pss_cons (ps_fld (pv 0) (pe_lock (pe_dc (own := [("thread", 2)]) rfl sc_Checker_init.nd (pi_keys (pv 1)) (blkOk_by (own := [("thread", 2)]) (N := ["self", "rows", "thread"]) (sc := defScope s_Checker_init) (by decide +kernel)) (fun _ _ _ _ _ => (pg_name (i := 2) sc_Checker_init.nd rfl (Or.inl rfl))) (fun _ _ _ _ _ => (pts_one (pt_val (pe_call cName.ok (hr.mono (by decide)) (by rfl) cName.mg cName.kp cName.bd .nil pass0 (pa_cons (pv 2) pa_nil))))) (fun _ _ _ _ _ => (pv 2)) (fun _ _ _ _ _ => pe_str))) rfl)
    (pss_one (ps_fld (pv 0) pe_dnewK rfl))), ?_⟩
    refine st_fld ?_
    refine ⟨_, rfl, _, rfl, c, C, dx, [], rfl, hc, TC.cl, TC.n1, by decide, ?_⟩
    have s1 : Step [c] H (upd H c (.ins C dx (putF "rows" (.ref ra) []))) := .put hc rfl
    have c1 : (upd H c (.ins C dx (putF "rows" (.ref ra) []))) c = some (.ins C dx [("rows", .ref ra)]) := upd_same
    generalize upd H c (.ins C dx (putF "rows" (.ref ra) [])) = H1 at s1 c1 ⊢
    obtain ⟨kvs, r1, r2⟩ := hr0
    have nec : ra ≠ c := ne_kind r1 hc (by intro z; cases z)
    have r3 : H1 ra = some (.dK kvs) := s1.oth ra _ (by simpa using nec) rfl r1
    have r4 : Paired (RwsR K H1) kvs rows := rws_step s1 (by intro b hb; simp at hb; subst hb; exact noLst_of hc (fun _ z => by cases z) (fun _ _ z => by cases z)) r2
    refine st_fld ?_
    refine ⟨ra, _, r3, trivial, fun od => ?_⟩
    refine ⟨_, rfl, ra, od, rfl, .inl ⟨kvs, upd_same, fun D hD => ?_⟩⟩
    have hlen : kvs.length = rows.length := Paired.length r4
    have h5 := hg.many.2
    have nDr : D ≠ ra := fun z => by
      rw [z, upd_same] at hD
      cases hD
    have hD1 : H1 D = none := by
      rw [upd_ne nDr] at hD
      exact hD
    refine dc_it walk_keys (fun i H' => Same (upd H1 ra (.frz od (.dK kvs))) H' ∧ ∃ kk, H' D = some (.dK kk) ∧ KindsOk kk κ ∧ kk.length ≤ i) ⟨same_new hD, [], upd_same, fun x v e => (by cases e), Nat.zero_le _⟩
      (fun i H' _ q => q.1 ra _ upd_same) ?_ ?_
    · rintro i x H2 H' hi ⟨s2, kk, k1, k2, k3⟩ ⟨rfl, key, v, hkv, rfl⟩
      obtain ⟨p, hp, e1, _⟩ := paired_at r4 hkv
      have hmem : p.1 ∈ rows.map (·.1) := List.mem_map_of_mem (List.mem_of_getElem? hp)
      have e1 : key = Sum.inr p.1 := e1
      subst e1
      refine ⟨rfl, ?_⟩
      refine ⟨_, rfl, p.1, rfl, name_len' (hg.nm hmem), fun H3 s3 => ?_⟩
      rw [hg.nm hmem]
      refine ⟨_, rfl, iteT ?_⟩
      refine ⟨_, rfl, kk, Sum.inr p.1, rfl, s3 D _ k1, Nat.lt_of_le_of_lt (show kk.length ≤ 1000 by omega) (by decide), fun b u e => ?_, _, upd_same, fun x v e => ?_, Nat.le_trans (length_putK _ _ _) (by omega)⟩
      · rw [upd_ne (fun z => by rw [z, hD] at e; cases e)]
        exact s3 b u (s2 b u e)
      · rw [valV_put] at e
        by_cases ex : x = p.1
        · rw [if_pos (by rw [ex])] at e
          cases e
          rw [ex, hg.kt _ hmem]
          rfl
        · rw [if_neg (fun z => ex (Sum.inr.inj z))] at e
          exact k2 x v e
    · rintro H2 ⟨s2, kk, k1, k2, k3⟩
      refine ⟨s2 ra _ upd_same, _, rfl, ?_⟩
      have st : Step [c] H (upd H2 ra (.dK kvs)) := s1.trans (.unlock r3 rfl rfl (.of s2))
      have kD : (upd H2 ra (.dK kvs)) D = some (.dK kk) := by
        rw [upd_ne nDr]
        exact k1
      have cD : (upd H2 ra (.dK kvs)) c = some (.ins C dx [("rows", .ref ra)]) := by
        rw [upd_ne nec.symm]
        exact s2 c _ (by rw [upd_ne nec.symm]; exact c1)
      have rD : (upd H2 ra (.dK kvs)) ra = some (.dK kvs) := upd_same
      have nDc : D ≠ c := ne_none c1 hD1
      have hD0 : H D = none := by
        cases q : H D with
        | none => rfl
        | some u =>
          by_cases hu : tblO u = true
          · have q2 : ∃ ps, u = .tbl ps := by
              cases u <;> first | exact ⟨_, rfl⟩ | (cases hu)
            obtain ⟨ps, rfl⟩ := q2
            rw [s1.tab rfl D ps q] at hD1
            cases hD1
          · rw [s1.oth D u (by simpa using nDc) (by simpa using hu) q] at hD1
            cases hD1
      generalize upd H2 ra (.dK kvs) = H3 at st kD cD rD ⊢
      refine ⟨c, C, dx, _, rfl, cD, TC.cl, TC.n2, by show 1 < 1000; decide, ?_⟩
      have s4 : Step [c] H3 (upd H3 c (.ins C dx (putF "kinds" (.ref D) [("rows", .ref ra)]))) := .put cD rfl
      have c4 : (upd H3 c (.ins C dx (putF "kinds" (.ref D) [("rows", .ref ra)]))) c = some (.ins C dx [("rows", .ref ra), ("kinds", .ref D)]) := upd_same
      generalize upd H3 c (.ins C dx (putF "kinds" (.ref D) [("rows", .ref ra)])) = H4 at s4 c4 ⊢
      refine fun fk hfk => ⟨_, rfl, c, C, dx, _, rfl, (same_new hfk) _ _ c4, TC.cl, TC.n3, by show 2 < 1000; decide, ?_⟩
      have kD4 : H4 D = some (.dK kk) := s4.oth D _ (by simpa using nDc) rfl kD
      have rD4 : H4 ra = some (.dK kvs) := s4.oth ra _ (by simpa using nec) rfl rD
      have n1 : fk ≠ c := ne_none c4 hfk
      have n2 : fk ≠ D := ne_none kD4 hfk
      have n3 : fk ≠ ra := ne_none rD4 hfk
      have cF : (upd H4 fk (.dK [])) c = some (.ins C dx [("rows", .ref ra), ("kinds", .ref D)]) := same_new hfk _ _ c4
      have s5 : Step [c] H (upd (upd H4 fk (.dK [])) c (.ins C dx (putF "forked" (.ref fk) [("rows", .ref ra), ("kinds", .ref D)]))) := ((st.trans s4).trans (.new hfk)).trans (.put cF rfl)
      have hfk0 : H fk = none := by
        cases q : H fk with
        | none => rfl
        | some u =>
          have st4 := st.trans s4
          by_cases hu : tblO u = true
          · have q2 : ∃ ps, u = .tbl ps := by
              cases u <;> first | exact ⟨_, rfl⟩ | (cases hu)
            obtain ⟨ps, rfl⟩ := q2
            rw [st4.tab rfl fk ps q] at hfk
            cases hfk
          · rw [st4.oth fk u (by simpa using n1) (by simpa using hu) q] at hfk
            cases hfk
      have hcl : noLst H c := noLst_of hc (fun _ z => by cases z) (fun _ _ z => by cases z)
      refine k _ D fk s5 ⟨upd_same, ⟨kvs, ?_, ?_⟩, ⟨kk, ?_, k2, by omega⟩, ⟨[], ?_, fun x => by simp [valV_nil], Nat.zero_le _⟩, n2.symm, nDr.symm, n3.symm⟩ hD0 hfk0
      · rw [upd_ne nec]
        exact same_new hfk _ _ rD4
      · exact rws_step s5 (by intro b hb; simp at hb; subst hb; exact hcl) r2
      · rw [upd_ne nDc]
        exact same_new hfk _ _ kD4
      · rw [upd_ne n1]
        exact upd_same
end
end Lg

namespace Lg
open PySem L2 TL
theorem name_repr {x : Str} (h : nameOk x = true) : (reprText x).length ≤ sizeLine := by
  have hs := name_str h
  unfold PyData.strOk at hs
  rw [← Array.all_toList, List.all_eq_true] at hs
  refine Nat.le_trans (StrLaws.reprText_len x fun c hc => Nat.lt_trans (of_decide_eq_true (hs c hc)) (by decide)) ?_
  have := name_len h
  exact Nat.le_trans (show 10 * x.length + 2 ≤ 102 by omega) (by decide)
/-! ### all events, in any order of the threads -/
def rowOf (rows : Rows) (t : Str) : List Ev := (rows.lookup t).getD []
theorem lookup_mem {rows : Rows} {t : Str} (h : t ∈ rows.map (·.1)) : ∃ es, rows.lookup t = some es := by
  induction rows with
  | nil => cases h
  | cons q r ih =>
    obtain ⟨y, es⟩ := q
    by_cases e : t = y
    · subst e
      exact ⟨es, List.lookup_cons_self⟩
    · have ne : (t == y) = false := beq_eq_false_iff_ne.mpr e
      rw [List.lookup_cons, ne]
      exact ih ((List.mem_cons.mp h).resolve_left e)
theorem flat_rows {rows : Rows} (h : (rows.map (·.1)).Nodup) : (rows.map (·.1)).flatMap (rowOf rows) = (rows.map (·.2)).flatten := by
  have a : ∀ l : Rows, (∀ p ∈ l, p ∈ rows) → (l.map (·.1)).flatMap (rowOf rows) = (l.map (·.2)).flatten := fun l => by
    induction l with
    | nil => intro _; rfl
    | cons p r ih =>
      intro hl
      rw [List.map_cons, List.flatMap_cons, List.map_cons, List.flatten_cons, ih fun q hq => hl q (List.mem_cons_of_mem _ hq)]
      rw [rowOf, lookup_of h (hl p List.mem_cons_self)]
      rfl
  exact a rows fun p hp => hp
theorem byRepr_perm (ks : List Str) : (Srl.byRepr ks).Perm ks := List.mergeSort_perm _ _
/-- the forks of the row of the i-th thread are new -/
theorem fresh_at {rows : Rows} {ks : List Str} (h : ((ks.flatMap (rowOf rows)).flatMap forkE).Nodup) {i : Nat} {t : Str} (hi : ks[i]? = some t) {fs : List Str} (hfs : ∀ x, x ∈ fs ↔ x ∈ ((ks.take i).flatMap (rowOf rows)).flatMap forkE) : FreshF fs (rowOf rows t) := by
  have e1 : ks = ks.take i ++ t :: ks.drop (i + 1) := by
    obtain ⟨hlt, e⟩ := List.getElem?_eq_some_iff.mp hi
    rw [← e, ← List.drop_eq_getElem_cons hlt, List.take_append_drop]
  intro j e hj x hx
  have e2 : rowOf rows t = (rowOf rows t).take j ++ e :: (rowOf rows t).drop (j + 1) := by
    obtain ⟨hlt, e'⟩ := List.getElem?_eq_some_iff.mp hj
    rw [← e', ← List.drop_eq_getElem_cons hlt, List.take_append_drop]
  rw [e1, List.flatMap_append, List.flatMap_cons, List.flatMap_append, List.flatMap_append] at h
  obtain ⟨_, h2, h3⟩ := List.nodup_append.mp h
  obtain ⟨h4, _, _⟩ := List.nodup_append.mp h2
  have hin : x ∈ (rowOf rows t).flatMap forkE := by
    rw [e2, List.flatMap_append, List.flatMap_cons]
    exact List.mem_append_right _ (List.mem_append_left _ hx)
  refine ⟨fun hf => h3 x ((hfs x).mp hf) x (List.mem_append_left _ hin) rfl, fun hf => ?_⟩
  rw [e2, List.flatMap_append, List.flatMap_cons] at h4
  obtain ⟨_, _, h6⟩ := List.nodup_append.mp h4
  exact h6 x hf x (List.mem_append_left _ hx) rfl
section
variable {P : Program} {w : World} {K : PySem.W.Frag} {mg : Str → Option Value} {base : Heap} {f : Addr} {fd : FuncData} {C : Addr} {cc PT : Addr} {TT : List (Addr × Str)}
abbrev s_Checker_check : Stmt := inClass (top 20) 1
theorem sc_Checker_check : FnScope ["self", "thread", "row"] ["self"] (defScope s_Checker_check) := ⟨rfl, rfl, rfl, by decide +kernel, rfl, by decide +kernel, by decide +kernel⟩
def qCk : Str := "Checker.check.<locals>.<lambda>"
def spCk (K : PySem.W.Frag) (C : Addr) (TT : List (Addr × Str)) : Sp := fun vs H Q _ => ∃ (c dx ra kd fk : Addr) (rows : Rows) (κ : Str → Kd), vs = [.ref c] ∧ ChkAt K H C c dx ra kd fk rows κ [] 5 ∧ Good rows κ ∧ LamX.Tabs TT H ∧
  ∀ H', StepN [kd, fk] H H' → LamX.Tabs TT H' → Q .non H'
theorem ok_check (F : FunC K "check" "Checker.check" s_Checker_check f fd cc) (T : Gb K mg) (TC : ChkC K C) (TB : LamX.TabB base mg cc PT) (hmT : (PT, qCk) ∈ TT) (huT : ∀ p ∈ TT, p.1 = PT → p.2 = qCk)
    (mCT : M0 P w K mg base 4 C "check_thread" ["self", "thread"] (spCT K C)) :
    FnOk P w K mg base CX0 5 f fd ["self"] (spCk K C TT) := by
  obtain ⟨_, _, mCT⟩ := mCT
  obtain ⟨tMT, hMT⟩ := T.c_thr
  obtain ⟨tME, hME⟩ := T.c_evs
  refine F.ok sc_Checker_check (fun vs H Q E h => ?_) (fun A outer s H vs Q E hr h => ?_)
  · obtain ⟨c, dx, ra, kd, fk, rows, κ, rfl, _⟩ := h
    rfl
  · obtain ⟨c, dx, ra, kd, fk, rows, κ, rfl, hc, hg, hT, k⟩ := h
    have hu := hu_of hr
    have hcode : (cxOf CX0 P w K mg base ["self", "thread", "row"] "Checker.check" (defScope s_Checker_check) f (.ref cc) A outer s H E).nox.env.code = .ref cc := rfl
    refine ⟨_, pss_cons (ps_if (PW.pt (pw_or (pt_not (pt_chain op_le op_le pe_int (pe_callB call_lenD (by rfl) T.m_len PySem.boot_len (pa_cons (pe_fld (pv 0) rfl) pa_nil)) (pe_glob (v := .int 5) (by rfl) hMT ⟨tMT, rfl⟩))) (pw_or1 (pt_cmpR op_gt (pe_callB (cr_sum rfl) (by rfl) T.m_sum (by decide +kernel) (pa_cons (pe_lock (pe_lc (own := [("row", 2)]) rfl sc_Checker_check.nd (pi_values (pe_fld (pv 0) rfl)) (blkOk_by (own := [("row", 2)]) (N := ["self", "thread", "row"]) (sc := defScope s_Checker_check) (by decide +kernel)) (fun _ _ _ _ _ => (pg_name (i := 2) sc_Checker_check.nd rfl (Or.inl rfl))) (fun _ _ _ _ _ => pts_nil) (fun _ _ _ _ _ => (pe_callB (Kx.lenK (K := K)) (by rfl) T.m_len PySem.boot_len (pa_cons (pv 2) pa_nil))))) pa_nil)) (pe_glob (v := .int 40) (by rfl) hME ⟨tME, rfl⟩) (nomark _))))) (pss_one (ps_never)) (pss_nil))
    (pss_one (ps_for PassesOwn.never rfl (pi_list (Srl.pe_srl (T := TT) TB hcode hmT huT T.m_sorted T.m_repr (by rfl) rfl (hr.mono (by decide)) (by decide +kernel) (by decide +kernel) Srl.hbd_name (pa_cons (pe_fld (pv 0) rfl) pa_nil))) (pg_name (i := 1) sc_Checker_check.nd rfl (Or.inl rfl))
      (pss_one (ps_expr (pe_meth (pv 0) TC.cl mCT.me mCT.ok (hr.mono (by decide)) mCT.bd .nil pass0 (pa_cons (pv 1) pa_nil)))))), ?_⟩
    obtain ⟨kvs, r1, r2⟩ := hc.rws
    have hlen : kvs.length = rows.length := Paired.length r2
    have nec : ra ≠ c := ne_kind r1 hc.ins (by intro z; cases z)
    have h5 := hg.many
    refine st_ifW (fun H1 => Step [] H H1) (fun R hR => ?_) (fun H1 s1 => ?_)
    · refine ⟨_, rfl, c, C, dx, _, _, rfl, hc.ins, TC.cl, TC.n1, rfl, ra, kvs, rfl, r1, _, _, rfl, rfl, _, rfl, ?_⟩
      refine ifT (by rw [hlen]; omega) ?_
      refine ⟨_, _, rfl, rfl, _, rfl, ?_⟩
      rw [decide_eq_true (show ((kvs.length : Nat) : Int) ≤ 5 by rw [hlen]; omega)]
      refine iteF ?_
      refine ⟨ra, _, r1, trivial, fun od => ?_⟩
      have l1 : Step [ra] H (upd H ra (.frz od (.dK kvs))) := .put r1 rfl
      have cl1 : (upd H ra (.frz od (.dK kvs))) c = some (.ins C dx [("rows", .ref ra), ("kinds", .ref kd), ("forked", .ref fk)]) := by
        rw [upd_ne nec.symm]
        exact hc.ins
      have rl1 : (upd H ra (.frz od (.dK kvs))) ra = some (.frz od (.dK kvs)) := upd_same
      have rr1 : Paired (RwsR K (upd H ra (.frz od (.dK kvs)))) kvs rows := rws_step l1 (by simpa using nol_dK r1) r2
      refine ⟨_, rfl, c, C, dx, _, _, rfl, cl1, TC.cl, TC.n1, rfl, ra, od, kvs, rfl, rl1, fun D hD => ?_⟩
      have nDr : D ≠ ra := ne_none rl1 hD
      refine lc_it walk_values (AccP _ D fun i acc _ => acc = (rows.take i).map fun p => V.int (p.2.length : Nat)) (acc0 hD (by simp)) (fun i H' _ q => q.1 ra _ rl1) ?_ ?_
      · rintro i x H2 H' hi ⟨s2, _, hD2, rfl⟩ ⟨rfl, key, hkv⟩
        obtain ⟨p, hp, _, a, xs, e3, ha, hpp⟩ := paired_at rr1 hkv
        have e3 : x = .ref a := e3
        subst e3
        refine ⟨rfl, yes_then ?_⟩
        refine ⟨_, rfl, a, xs, rfl, ha.imp (fun q => s2.seq q) (fun q => sqt_same s2 q), ?_⟩
        refine acc_put hD s2 hD2 ?_ ?_
        · rw [List.length_map]
          exact Nat.lt_of_le_of_lt (Nat.le_trans (List.length_take_le' _ _) (Nat.le_trans h5.2 (by decide : 5 ≤ 1000))) (by decide)
        · rw [List.take_add_one, hp, show xs.length = p.2.length from Paired.length hpp]
          simp
      · rintro H2 ⟨s2, _, hD2, rfl⟩
        refine ⟨s2 ra _ rl1, ?_⟩
        have e9 : (rows.take kvs.length).map (fun p => V.int (p.2.length : Nat)) = ((rows.map fun p => ((p.2.length : Nat) : Int))).map V.int := by
          rw [hlen, List.take_of_length_le (Nat.le_refl _), List.map_map]
          rfl
        have hD3 : (upd H2 ra (.dK kvs)) D = some (.lst ((rows.map fun p => ((p.2.length : Nat) : Int)).map V.int)) := by
          rw [upd_ne nDr, hD2, e9]
        refine ⟨D, (rows.map fun p => ((p.2.length : Nat) : Int)), rfl, SqL.of hD3, _, _, rfl, rfl, _, rfl, ?_⟩
        have e10 : ∀ l : Rows, (l.map fun p => ((p.2.length : Nat) : Int)).sum = ((l.map (·.2)).flatten.length : Nat) := fun l => by
          induction l with
          | nil => rfl
          | cons p r ih =>
            rw [List.map_cons, List.sum_cons, ih, List.map_cons, List.flatten_cons, List.length_append]
            omega
        rw [e10]
        refine ifF (by have := hg.size; omega) ?_
        exact hR _ (.unlock r1 rfl rfl (.of s2))
    · have c1 := hc.step s1 (by simp) (by simp) (by simp) (by simp) (by simp)
      have t1 : LamX.Tabs TT H1 := tabs_step hT s1 (by simp)
      obtain ⟨kvs1, r3, r4⟩ := c1.rws
      refine ⟨_, rfl, c, C, dx, _, _, rfl, c1.ins, TC.cl, TC.n1, rfl, ra, kvs1, rows.map (·.1), rfl, r3, rws_keys r4, ?_, ?_, t1, fun H2 p e2 t2 hp => ?_⟩
      · rw [List.length_map]
        omega
      · exact fun y hy => name_repr (hg.nm hy)
      · have hks : (Srl.byRepr (rows.map (·.1))).Perm (rows.map (·.1)) := byRepr_perm _
        generalize Srl.byRepr (rows.map (·.1)) = ks at hks ⊢
        have hev : (ks.flatMap (rowOf rows)).Perm (rows.map (·.2)).flatten := flat_rows hg.nd ▸ hks.flatMap_right _
        have hnd : ((ks.flatMap (rowOf rows)).flatMap forkE).Nodup := (hev.flatMap_right _).nodup_iff.mpr hg.forks
        have hsz : (ks.flatMap (rowOf rows)).length ≤ 40 := hev.length_eq ▸ hg.size
        have s2 : StepN [kd, fk] H (upd H2 p (.lst (ks.map V.str))) := (s1.weak.wide (by simp)).trans ((StepB.ext e2).trans (.new hp))
        have s12 : StepN [] H1 (upd H2 p (.lst (ks.map V.str))) := (StepB.ext e2).trans (.new hp)
        have c2 := c1.step s12 (by simp) (by simp) (by simp) (by simp) (by simp)
        have t3 : LamX.Tabs TT (upd H2 p (.lst (ks.map V.str))) := t2.ext (same_new hp)
        have hp3 : (upd H2 p (.lst (ks.map V.str))) p = some (.lst (ks.map V.str)) := upd_same
        generalize upd H2 p (.lst (ks.map V.str)) = H3 at s2 c2 t3 hp3 ⊢
        refine ⟨p, rfl, ⟨_, SqL.of hp3⟩, ?_⟩
        have nl : ∀ b ∈ [kd, fk], noLst H3 b := by
          obtain ⟨_, q1, _⟩ := c2.kds
          obtain ⟨_, q2, _⟩ := c2.fks
          intro b hb
          simp at hb
          rcases hb with rfl | rfl
          · exact nol_dK q1
          · exact nol_dK q2
        refine for_list (K := K) (a := p) (xs := ks.map V.str) (fun i σ H' => (∃ w1 w2 : Option V, σ = [some (.ref c), w1, w2]) ∧ Step [kd, fk] H3 H' ∧ ∃ fs', ChkAt K H' C c dx ra kd fk rows κ fs' (5 + 2 * ((ks.take i).flatMap (rowOf rows)).length) ∧ ∀ x, x ∈ fs' ↔ x ∈ ((ks.take i).flatMap (rowOf rows)).flatMap forkE)
          ⟨⟨_, _, rfl⟩, .refl _ _, [], c2, fun x => by simp⟩ (fun i σ H' _ ⟨_, st, _⟩ => sql_step st nl (SqL.of hp3)) ?_ ?_
        · rintro i x σ H' hi ⟨⟨w1, w2, rfl⟩, st, fs', c3, hfs⟩
          rw [List.getElem?_map] at hi
          cases hki : ks[i]? with
          | none => rw [hki] at hi; cases hi
          | some t =>
            rw [hki] at hi
            cases hi
            have hmem : t ∈ rows.map (·.1) := hks.mem_iff.mp (List.mem_of_getElem? hki)
            obtain ⟨es, hes⟩ := lookup_mem hmem
            have hro : rowOf rows t = es := by rw [rowOf, hes]; rfl
            have e11 : ((ks.take (i + 1)).flatMap (rowOf rows)) = ((ks.take i).flatMap (rowOf rows)) ++ es := by
              rw [List.take_add_one, hki, List.flatMap_append]
              simp [hro]
            have hle : ((ks.take (i + 1)).flatMap (rowOf rows)).length ≤ 40 := by
              refine Nat.le_trans ?_ hsz
              rw [← List.take_append_drop (i + 1) ks, List.flatMap_append, List.length_append]
              rw [List.take_append_drop]
              exact Nat.le_add_right _ _
            rw [e11, List.length_append] at hle
            refine ⟨_, rfl, c, dx, _, rfl, c3.ins, rfl, _, rfl, ?_⟩
            refine ⟨c, dx, ra, kd, fk, rows, κ, fs', _, t, es, rfl, c3, by omega, hes, hg.row t es hes, hro ▸ fresh_at hnd hki hfs, fun H4 fs4 s4 c4 h4 => ?_⟩
            refine ⟨⟨_, _, rfl⟩, st.trans s4, fs4, ?_, fun x => ?_⟩
            · rw [e11, List.length_append]
              exact c4.mono (by omega)
            · rw [h4 x, hfs x, e11, List.flatMap_append, List.mem_append]
        · rintro σ H' ⟨_, st, _⟩
          refine k H' (s2.trans st.weak) (tabs_step t3 st ?_)
          obtain ⟨_, q1, _⟩ := c2.kds
          obtain ⟨_, q2, _⟩ := c2.fks
          intro b hb q
          simp at hb
          rcases hb with rfl | rfl
          · rw [q1]
            intro z
            cases z
          · rw [q2]
            intro z
            cases z
end
end Lg

namespace Lg
open PySem L2 TL
/-- a list of dicts, the i-th of which is as I says -/
def DictsAt (H : Hp) (D : Addr) (n : Nat) (I : Nat → List (Key × V) → Prop) : Prop := ∃ ds : List Addr, H D = some (.lst (ds.map V.ref)) ∧ ds.length = n + 1 ∧ ∀ (i : Nat) d, ds[i]? = some d → ∃ kvs, H d = some (.dK kvs) ∧ I i kvs
theorem DictsAt.push {H H' : Hp} {D p : Addr} {n : Nat} {I : Nat → List (Key × V) → Prop} {ds : List Addr} {kvs : List (Key × V)} (h2 : ds.length = n + 1) (h3 : ∀ (i : Nat) d, ds[i]? = some d → ∃ kvs, H d = some (.dK kvs) ∧ I i kvs)
    (hk : ∀ b kvs, H b = some (.dK kvs) → H' b = some (.dK kvs)) (hp : H' p = some (.dK kvs)) (hi : I (n + 1) kvs) (hD : H' D = some (.lst (ds.map V.ref ++ [.ref p]))) : DictsAt H' D (n + 1) I := by
  refine ⟨ds ++ [p], by rw [hD, List.map_append]; rfl, by rw [List.length_append, h2]; rfl, fun i d e => ?_⟩
  by_cases hl : i < ds.length
  · rw [List.getElem?_append_left hl] at e
    obtain ⟨kv, q1, q2⟩ := h3 i d e
    exact ⟨kv, hk d kv q1, q2⟩
  · rw [List.getElem?_append_right (by omega)] at e
    have hi2 : i = n + 1 := by
      have := (List.getElem?_eq_some_iff.mp e).1
      simp at this
      omega
    subst hi2
    rw [h2, Nat.sub_self] at e
    cases e
    exact ⟨kvs, hp, hi⟩
theorem kd_lock {x : Str} : kdOf x = .lock ↔ x ∈ wLock := by
  constructor
  · intro h
    unfold kdOf at h
    by_cases h1 : x ∈ wCell
    · rw [if_pos h1] at h; cases h
    rw [if_neg h1] at h
    by_cases h2 : x ∈ wLock
    · exact h2
    rw [if_neg h2] at h
    by_cases h3 : x ∈ wCnt
    · rw [if_pos h3] at h; cases h
    rw [if_neg h3] at h
    by_cases h4 : x ∈ wThr
    · rw [if_pos h4] at h; cases h
    · rw [if_neg h4] at h; cases h
  · intro h
    simp only [wLock, List.mem_cons, List.mem_nil_iff, or_false] at h
    rcases h with rfl | rfl | rfl | rfl <;> rfl
/-- what the counters are raised by -/
def RaisedIs (kvs : List (Key × V)) (r : Str → Option Int) : Prop := ∀ x : Str, valV kvs (Sum.inr x) = (r x).map V.int
def raisedE (r : Str → Option Int) (e : Ev) : Str → Option Int := match e.o with
  | some x => if e.w = "up" then fun y => if y = x then some ((r x).getD 0 + 1) else r y else if e.w = "down" then fun y => if y = x then some ((r x).getD 0 + -1) else r y else r
  | none => r
def raisedAt (es : List Ev) (i : Nat) : Str → Option Int := (es.take i).foldl raisedE fun _ => none
section
variable {P : Program} {w : World} {K : PySem.W.Frag} {mg : Str → Option Value} {base : Heap} {f : Addr} {fd : FuncData}
abbrev s_held_after : Stmt := top 25
theorem sc_held_after : FnScope ["row", "found", "word", "name", "value", "held"] ["row"] (defScope s_held_after) := ⟨rfl, rfl, rfl, by decide +kernel, rfl, by decide +kernel, by decide +kernel⟩
def spHA (K : PySem.W.Frag) : Sp := fun vs H Q _ => ∃ (a : Addr) (xs : List V) (es : List Ev) (hs : Nat → Str → Option Str), vs = [.ref a] ∧ SqT K H a xs ∧ Paired (EvAt K H) xs es ∧ es.length ≤ 500 ∧ (∀ e ∈ es, e.ok) ∧
  hs 0 = (fun _ => none) ∧ (∀ i e, es[i]? = some e → heldE (hs i) e = some (hs (i + 1))) ∧ ∀ H' D, Same H H' → H D = none → DictsAt H' D es.length (fun i kvs => HeldIs kvs (hs i) ∧ kvs.length ≤ i) → Q (.ref D) H'
theorem ok_held_after (F : Fun K "held_after" "held_after" s_held_after f fd) (T : Gb K mg) : FnOk P w K mg base CX0 1 f fd ["row"] (spHA K) := by
  refine F.ok sc_held_after (fun vs H Q E h => ?_) (fun cdv A outer s H vs Q E hr h => ?_)
  · obtain ⟨a, xs, es, hs, rfl, _⟩ := h
    rfl
  · obtain ⟨a, xs, es, hs, rfl, ha, hp, hl, hok, h0, hst, k⟩ := h
    have hu := hu_of hr
    refine ⟨_, pss_cons (ps_set (i := 1) sc_held_after.nd rfl (Or.inl rfl) (pe_lst (pa_cons pe_dnewK pa_nil)))
    (pss_cons (ps_for PassesOwn.never rfl (pi_tup (pv 0)) (pg_tup rfl (pgs_cons (pg_name (i := 2) sc_held_after.nd rfl (Or.inl rfl)) (pgs_cons (pg_name (i := 3) sc_held_after.nd rfl (Or.inl rfl)) (pgs_cons (pg_name (i := 4) sc_held_after.nd rfl (Or.inl rfl)) pgs_nil))))
      (pss_cons (ps_set (i := 5) sc_held_after.nd rfl (Or.inl rfl) (pe_callTy call_dictD (by rfl) T.m_dict (by decide +kernel) (pa_cons (pe_ix ix_list (pv 1) (pe_un un_neg pe_int) (fun _ _ => rfl)) pa_nil)))
    (pss_cons (ps_if (pt_cmpR op_in_seq (pv 2) (pe_tup (pa_cons pe_str (pa_cons pe_str pa_nil))) rfl) (pss_one (ps_dput hu (pv 5) (pv 3) (pv 2) rfl)) (pss_one (ps_if (pt_cmpR op_in_seq (pv 2) (pe_tup (pa_cons pe_str (pa_cons pe_str pa_nil))) rfl) (pss_one (ps_expr (pe_dpop1 (pv 5) (pv 3) (by exact ⟨rfl, rfl, rfl, rfl⟩)))) (pss_nil))))
    (pss_one (ps_expr (pe_bm PySem.F.plainAttrs_list PySem.F.slot_list_append PySem.F.type_list_append mt_append (pv 1) (pa_cons (pv 5) pa_nil)))))))
    (pss_one (ps_ret (pv 1)))), ?_⟩
    refine st_asg ?_
    refine fun d0 hd0 => ⟨by show 1 ≤ sizeLine; decide, fun D hD => ?_⟩
    have hD0 : H D = none := (same_new hd0).free hD
    have s1 : Same H (upd (upd H d0 (.dK [])) D (.lst [.ref d0])) := (same_new hd0).trans (same_new hD)
    have a1 : DictsAt (upd (upd H d0 (.dK [])) D (.lst [.ref d0])) D 0 (fun i kvs => HeldIs kvs (hs i) ∧ kvs.length ≤ i) := by
      refine ⟨[d0], upd_same, rfl, fun i d e => ?_⟩
      match i, e with
      | 0, e =>
        cases e
        exact ⟨[], (same_new hD) _ _ upd_same, fun x => by rw [h0]; rfl, Nat.le_refl _⟩
    generalize upd (upd H d0 (.dK [])) D (.lst [.ref d0]) = H1 at s1 a1 ⊢
    have hlen : xs.length = es.length := Paired.length hp
    refine ⟨_, rfl, a, rfl, ⟨_, sqt_same s1 ha⟩, ?_⟩
    refine for_it (walk_tup (K := K) (a := a) (xs := xs)) (fun i σ H' => (∃ w1 w2 w3 w4 : Option V, σ = [some (.ref a), some (.ref D), w1, w2, w3, w4]) ∧ Same H H' ∧ DictsAt H' D i (fun i kvs => HeldIs kvs (hs i) ∧ kvs.length ≤ i))
      ⟨⟨_, _, _, _, rfl⟩, s1, a1⟩ (fun i σ H' _ q => sqt_same q.2.1 ha) ?_ ?_
    · rintro i x σ H2 H' hi ⟨⟨w1, w2, w3, w4, rfl⟩, s2, ds, q1, q2, q3⟩ ⟨rfl, hx⟩
      obtain ⟨e, hei, tv, zv, rfl, ht, hz⟩ := paired_at hp hx
      have hoke : e.ok := hok e (List.mem_of_getElem? hei)
      refine ⟨tv, _, rfl, sqt_same s2 ht, rfl, _, _, rfl, _, _, rfl, _, _, rfl, rfl, ?_⟩
      refine st_asg ?_
      rcases List.eq_nil_or_concat ds with rfl | ⟨ds', d, rfl⟩
      · cases q2
      rw [List.concat_eq_append] at q1 q2 q3
      have hdl : ds'.length = i := by simpa using q2
      obtain ⟨kvs, k1, k2, k3⟩ := q3 i d (by rw [List.getElem?_append_right (by omega), hdl]; simp)
      refine ⟨_, rfl, 1, rfl, D, _, _, _, rfl, rfl, SqL.of q1, by rw [List.map_append]; exact atI_last _ _, d, kvs, rfl, .inl k1, fun p hpn => ?_⟩
      have npD : p ≠ D := ne_none q1 hpn
      have hkD : kvs.length < sizeLine := Nat.lt_of_le_of_lt (show kvs.length ≤ 1000 by omega) (by decide)
      have hil : i < es.length := hlen ▸ hi
      have hsi := hst i e hei
      refine st_ifJ (fun σ' H3 => σ' = [some (.ref a), some (.ref D), some (.str e.w), some (oV e.o), some zv, some (.ref p)] ∧ (∀ b u, b ≠ p → H' b = some u → H3 b = some u) ∧ ∃ kvs', H3 p = some (.dK kvs') ∧ HeldIs kvs' (hs (i + 1)) ∧ kvs'.length ≤ i + 1) (fun R hR => ?_) ?_
      · have sp : Same H' (upd H' p (.dK kvs)) := same_new hpn
        have pp : (upd H' p (.dK kvs)) p = some (.dK kvs) := upd_same
        generalize upd H' p (.dK kvs) = H3 at sp pp ⊢
        refine ⟨_, rfl, by show 2 ≤ sizeLine; decide, fun q hq => ?_⟩
        have s4 : Same H3 (upd H3 q (.tup [.str "lock", .str "share"])) := same_new hq
        have t4 : (upd H3 q (.tup [.str "lock", .str "share"])) q = some (.tup [.str "lock", .str "share"]) := upd_same
        generalize upd H3 q (.tup [.str "lock", .str "share"]) = H4 at s4 t4 ⊢
        have p4 := s4 _ _ pp
        refine ⟨q, (["lock", "share"] : List Str).map V.str, rfl, .inr (SqT.of t4), rfl, rfl, _, rfl, ?_⟩
        refine ifB (in_strs _ _) ?_
        by_cases hw : e.w ∈ (["lock", "share"] : List Str)
        · refine ifT hw ?_
          have hk : kdOf e.w = .lock := kd_lock.mpr (by simp only [List.mem_cons, List.mem_nil_iff, or_false] at hw; rcases hw with hw | hw <;> rw [hw] <;> decide +kernel)
          obtain ⟨x, hx0, _⟩ := kd_ok hoke (by rw [hk]; intro z; cases z)
          unfold heldE at hsi
          rw [hk, hx0] at hsi
          dsimp only at hsi
          unfold heldGo at hsi
          rw [if_pos hw] at hsi
          by_cases hn : hs i x = none
          · rw [if_pos hn] at hsi
            have hsi := Option.some.inj hsi
            refine ⟨_, rfl, _, rfl, _, rfl, p, _, rfl, by rw [hx0]; exact DPut.k (k := Sum.inr x) p4 hkD, ?_⟩
            refine hR _ _ ⟨rfl, fun b u nb e' => by rw [upd_ne nb]; exact s4 _ _ (sp _ _ e'), _, upd_same, fun y => ?_, Nat.le_trans (length_putK _ _ _) (by omega)⟩
            rw [valV_put, k2 y, ← hsi]
            by_cases ey : y = x
            · rw [if_pos (by rw [ey])]
              simp [ey]
            · rw [if_neg (fun z => ey (Sum.inr.inj z))]
              dsimp only
              rw [if_neg ey]
          · rw [if_neg hn] at hsi
            cases hsi
        · refine ifF hw ?_
          refine st_ifl ?_
          refine ⟨_, rfl, by show 2 ≤ sizeLine; decide, fun q5 hq5 => ?_⟩
          have s5 : Same H4 (upd H4 q5 (.tup [.str "unlock", .str "unshare"])) := same_new hq5
          have t5 : (upd H4 q5 (.tup [.str "unlock", .str "unshare"])) q5 = some (.tup [.str "unlock", .str "unshare"]) := upd_same
          generalize upd H4 q5 (.tup [.str "unlock", .str "unshare"]) = H5 at s5 t5 ⊢
          have p5 := s5 _ _ p4
          refine ⟨q5, (["unlock", "unshare"] : List Str).map V.str, rfl, .inr (SqT.of t5), rfl, rfl, _, rfl, ?_⟩
          refine ifB (in_strs _ _) ?_
          by_cases hw2 : e.w ∈ (["unlock", "unshare"] : List Str)
          · refine ifT hw2 ?_
            have hk : kdOf e.w = .lock := kd_lock.mpr (by simp only [List.mem_cons, List.mem_nil_iff, or_false] at hw2; rcases hw2 with hw2 | hw2 <;> rw [hw2] <;> decide +kernel)
            obtain ⟨x, hx0, _⟩ := kd_ok hoke (by rw [hk]; intro z; cases z)
            unfold heldE at hsi
            rw [hk, hx0] at hsi
            dsimp only at hsi
            unfold heldGo at hsi
            rw [if_neg hw] at hsi
            by_cases hn : hs i x = some (if e.w = "unlock" then ("lock" : Str) else "share")
            · rw [if_pos hn] at hsi
              have hsi := Option.some.inj hsi
              refine ⟨_, rfl, p, rfl, .inl ⟨kvs, .inl p5⟩, _, rfl, kvs, Sum.inr x, _, p5, by rw [hx0]; rfl, (by rw [k2 x, hn]; rfl), ?_⟩
              refine hR _ _ ⟨rfl, fun b u nb e' => by rw [upd_ne nb]; exact s5 _ _ (s4 _ _ (sp _ _ e')), _, upd_same, fun y => ?_, Nat.le_trans (dropK_le _ _) (by omega)⟩
              rw [valV_drop, k2 y, ← hsi]
              by_cases ey : y = x
              · rw [if_pos (by rw [ey])]
                simp [ey]
              · rw [if_neg (fun z => ey (Sum.inr.inj z))]
                dsimp only
                rw [if_neg ey]
            · rw [if_neg hn] at hsi
              cases hsi
          · refine ifF hw2 ?_
            have hk : kdOf e.w ≠ .lock := fun z => by
              have z := kd_lock.mp z
              simp only [wLock, List.mem_cons, List.mem_nil_iff, or_false] at z hw hw2
              rcases z with z | z | z | z
              · exact hw (.inl z)
              · exact hw2 (.inl z)
              · exact hw (.inr z)
              · exact hw2 (.inr z)
            have hsi2 : hs (i + 1) = hs i := by
              unfold heldE at hsi
              cases q9 : kdOf e.w with
              | lock => exact absurd q9 hk
              | lone => rw [q9] at hsi; exact (Option.some.inj hsi).symm
              | cell => rw [q9] at hsi; exact (Option.some.inj hsi).symm
              | counter => rw [q9] at hsi; exact (Option.some.inj hsi).symm
              | thread => rw [q9] at hsi; exact (Option.some.inj hsi).symm
            refine hR _ _ ⟨rfl, fun b u nb e' => s5 _ _ (s4 _ _ (sp _ _ e')), _, p5, fun y => ?_, by omega⟩
            rw [hsi2]
            exact k2 y
      · rintro σ' H3 ⟨rfl, s3, kvs', p1, p2, p3⟩
        have hD3 : H3 D = some (.lst ((ds' ++ [d]).map V.ref)) := s3 D _ npD.symm q1
        refine ⟨_, rfl, .inl ⟨rfl, _, SqL.of hD3⟩, _, rfl, D, _, _, rfl, rfl, hD3, ?_, ?_⟩
        · rw [List.length_map, q2]
          exact Nat.lt_of_le_of_lt (show i + 1 ≤ 1000 by omega) (by decide)
        · refine ⟨⟨_, _, _, _, rfl⟩, fun b u e' => ?_, ?_⟩
          · have nb : b ≠ D := ne_of_none e' hD0
            rw [upd_ne nb]
            exact s3 b u (ne_of_none (s2 b u e') hpn) (s2 b u e')
          · refine DictsAt.push (p := p) (kvs := kvs') q2 q3 (fun b kv e' => ?_) ?_ ⟨p2, p3⟩ upd_same
            · have nb : b ≠ D := ne_kind e' q1 (by intro z; cases z)
              rw [upd_ne nb]
              exact s3 b _ (ne_of_none e' hpn) e'
            · rw [upd_ne npD]
              exact p1
    · rintro σ H' ⟨⟨w1, w2, w3, w4, rfl⟩, s2, q⟩
      rw [hlen] at q
      exact ⟨_, rfl, k H' D s2 hD0 q⟩
abbrev s_raised_after : Stmt := top 26
theorem sc_raised_after : FnScope ["row", "found", "word", "name", "value", "raised"] ["row"] (defScope s_raised_after) := ⟨rfl, rfl, rfl, by decide +kernel, rfl, by decide +kernel, by decide +kernel⟩
def spRA (K : PySem.W.Frag) : Sp := fun vs H Q _ => ∃ (a : Addr) (xs : List V) (es : List Ev), vs = [.ref a] ∧ SqT K H a xs ∧ Paired (EvAt K H) xs es ∧ es.length ≤ 500 ∧ (∀ e ∈ es, e.ok) ∧
  ∀ H' D, Same H H' → H D = none → DictsAt H' D es.length (fun i kvs => RaisedIs kvs (raisedAt es i) ∧ kvs.length ≤ i) → Q (.ref D) H'
theorem ok_raised_after (F : Fun K "raised_after" "raised_after" s_raised_after f fd) (T : Gb K mg) : FnOk P w K mg base CX0 1 f fd ["row"] (spRA K) := by
  refine F.ok sc_raised_after (fun vs H Q E h => ?_) (fun cdv A outer s H vs Q E hr h => ?_)
  · obtain ⟨a, xs, es, rfl, _⟩ := h
    rfl
  · obtain ⟨a, xs, es, rfl, ha, hp, hl, hok, k⟩ := h
    have hu := hu_of hr
    refine ⟨_, pss_cons (ps_set (i := 1) sc_raised_after.nd rfl (Or.inl rfl) (pe_lst (pa_cons pe_dnewK pa_nil)))
    (pss_cons (ps_for PassesOwn.never rfl (pi_tup (pv 0)) (pg_tup rfl (pgs_cons (pg_name (i := 2) sc_raised_after.nd rfl (Or.inl rfl)) (pgs_cons (pg_name (i := 3) sc_raised_after.nd rfl (Or.inl rfl)) (pgs_cons (pg_name (i := 4) sc_raised_after.nd rfl (Or.inl rfl)) pgs_nil))))
      (pss_cons (ps_set (i := 5) sc_raised_after.nd rfl (Or.inl rfl) (pe_callTy call_dictD (by rfl) T.m_dict (by decide +kernel) (pa_cons (pe_ix ix_list (pv 1) (pe_un un_neg pe_int) (fun _ _ => rfl)) pa_nil)))
    (pss_cons (ps_if (pt_cmpR op_in_seq (pv 2) (pe_tup (pa_cons pe_str (pa_cons pe_str pa_nil))) rfl) (pss_one (ps_dput hu (pv 5) (pv 3) (pe_op op_add (pe_dget2 hu (pv 5) (pv 3) pe_int (by exact ⟨rfl, rfl, rfl, rfl⟩)) (pe_ifExp (pt_cmpR op_eq (pv 2) pe_str (nomark _)) pe_int (pe_un un_neg pe_int))) rfl)) (pss_nil))
    (pss_one (ps_expr (pe_bm PySem.F.plainAttrs_list PySem.F.slot_list_append PySem.F.type_list_append mt_append (pv 1) (pa_cons (pv 5) pa_nil)))))))
    (pss_one (ps_ret (pv 1)))), ?_⟩
    refine st_asg ?_
    refine fun d0 hd0 => ⟨by show 1 ≤ sizeLine; decide, fun D hD => ?_⟩
    have hD0 : H D = none := (same_new hd0).free hD
    have s1 : Same H (upd (upd H d0 (.dK [])) D (.lst [.ref d0])) := (same_new hd0).trans (same_new hD)
    have a1 : DictsAt (upd (upd H d0 (.dK [])) D (.lst [.ref d0])) D 0 (fun i kvs => RaisedIs kvs (raisedAt es i) ∧ kvs.length ≤ i) := by
      refine ⟨[d0], upd_same, rfl, fun i d e => ?_⟩
      match i, e with
      | 0, e =>
        cases e
        exact ⟨[], (same_new hD) _ _ upd_same, fun x => rfl, Nat.le_refl _⟩
    generalize upd (upd H d0 (.dK [])) D (.lst [.ref d0]) = H1 at s1 a1 ⊢
    have hlen : xs.length = es.length := Paired.length hp
    refine ⟨_, rfl, a, rfl, ⟨_, sqt_same s1 ha⟩, ?_⟩
    refine for_it (walk_tup (K := K) (a := a) (xs := xs)) (fun i σ H' => (∃ w1 w2 w3 w4 : Option V, σ = [some (.ref a), some (.ref D), w1, w2, w3, w4]) ∧ Same H H' ∧ DictsAt H' D i (fun i kvs => RaisedIs kvs (raisedAt es i) ∧ kvs.length ≤ i))
      ⟨⟨_, _, _, _, rfl⟩, s1, a1⟩ (fun i σ H' _ q => sqt_same q.2.1 ha) ?_ ?_
    · rintro i x σ H2 H' hi ⟨⟨w1, w2, w3, w4, rfl⟩, s2, ds, q1, q2, q3⟩ ⟨rfl, hx⟩
      obtain ⟨e, hei, tv, zv, rfl, ht, hz⟩ := paired_at hp hx
      have hoke : e.ok := hok e (List.mem_of_getElem? hei)
      refine ⟨tv, _, rfl, sqt_same s2 ht, rfl, _, _, rfl, _, _, rfl, _, _, rfl, rfl, ?_⟩
      refine st_asg ?_
      rcases List.eq_nil_or_concat ds with rfl | ⟨ds', d, rfl⟩
      · cases q2
      rw [List.concat_eq_append] at q1 q2 q3
      have hdl : ds'.length = i := by simpa using q2
      obtain ⟨kvs, k1, k2, k3⟩ := q3 i d (by rw [List.getElem?_append_right (by omega), hdl]; simp)
      refine ⟨_, rfl, 1, rfl, D, _, _, _, rfl, rfl, SqL.of q1, by rw [List.map_append]; exact atI_last _ _, d, kvs, rfl, .inl k1, fun p hpn => ?_⟩
      have npD : p ≠ D := ne_none q1 hpn
      have hkD : kvs.length < sizeLine := Nat.lt_of_le_of_lt (show kvs.length ≤ 1000 by omega) (by decide)
      have hil : i < es.length := hlen ▸ hi
      have hrs : raisedAt es (i + 1) = raisedE (raisedAt es i) e := by
        unfold raisedAt
        rw [List.take_add_one, hei, List.foldl_append]
        rfl
      refine st_ifJ (fun σ' H3 => σ' = [some (.ref a), some (.ref D), some (.str e.w), some (oV e.o), some zv, some (.ref p)] ∧ (∀ b u, b ≠ p → H' b = some u → H3 b = some u) ∧ ∃ kvs', H3 p = some (.dK kvs') ∧ RaisedIs kvs' (raisedAt es (i + 1)) ∧ kvs'.length ≤ i + 1) (fun R hR => ?_) ?_
      · have sp : Same H' (upd H' p (.dK kvs)) := same_new hpn
        have pp : (upd H' p (.dK kvs)) p = some (.dK kvs) := upd_same
        generalize upd H' p (.dK kvs) = H3 at sp pp ⊢
        refine ⟨_, rfl, by show 2 ≤ sizeLine; decide, fun q hq => ?_⟩
        have s4 : Same H3 (upd H3 q (.tup [.str "up", .str "down"])) := same_new hq
        have t4 : (upd H3 q (.tup [.str "up", .str "down"])) q = some (.tup [.str "up", .str "down"]) := upd_same
        generalize upd H3 q (.tup [.str "up", .str "down"]) = H4 at s4 t4 ⊢
        have p4 := s4 _ _ pp
        refine ⟨q, (["up", "down"] : List Str).map V.str, rfl, .inr (SqT.of t4), rfl, rfl, _, rfl, ?_⟩
        refine ifB (in_strs _ _) ?_
        by_cases hw : e.w ∈ (["up", "down"] : List Str)
        · refine ifT hw ?_
          have hk : kdOf e.w ≠ .lone := by simp only [List.mem_cons, List.mem_nil_iff, or_false] at hw; rcases hw with hw | hw <;> rw [hw] <;> (intro z; cases z)
          obtain ⟨x, hx0, _⟩ := kd_ok hoke hk
          have hget : ((valV kvs (Sum.inr x)).getD (V.int 0)) = V.int ((raisedAt es i x).getD 0) := by
            rw [k2 x]
            cases raisedAt es i x <;> rfl
          refine ⟨_, rfl, p, rfl, .inl ⟨kvs, .inl p4⟩, _, rfl, _, by rw [hx0]; exact DGet.k (k := Sum.inr x) p4, ?_⟩
          rw [hget]
          by_cases hup : e.w = "up"
          · refine ⟨_, rfl, rfl, _, rfl, ifT (by rw [hup]) ?_⟩
            refine ⟨_, _, rfl, rfl, _, rfl, _, rfl, p, _, rfl, by rw [hx0]; exact DPut.k (k := Sum.inr x) p4 hkD, ?_⟩
            refine hR _ _ ⟨rfl, fun b u nb e' => by rw [upd_ne nb]; exact s4 _ _ (sp _ _ e'), _, upd_same, fun y => ?_, Nat.le_trans (length_putK _ _ _) (by omega)⟩
            rw [valV_put, k2 y, hrs, raisedE, hx0]
            dsimp only
            rw [if_pos hup]
            by_cases ey : y = x
            · rw [if_pos (by rw [ey])]
              simp [ey]
            · rw [if_neg (fun z => ey (Sum.inr.inj z)), if_neg ey]
          · have hdn : e.w = "down" := by
              simp only [List.mem_cons, List.mem_nil_iff, or_false] at hw
              exact hw.resolve_left hup
            refine ⟨_, rfl, rfl, _, rfl, ifF (fun z => hup (V.str.inj z)) ?_⟩
            refine ⟨1, rfl, _, _, rfl, rfl, _, rfl, _, rfl, p, _, rfl, by rw [hx0]; exact DPut.k (k := Sum.inr x) p4 hkD, ?_⟩
            refine hR _ _ ⟨rfl, fun b u nb e' => by rw [upd_ne nb]; exact s4 _ _ (sp _ _ e'), _, upd_same, fun y => ?_, Nat.le_trans (length_putK _ _ _) (by omega)⟩
            rw [valV_put, k2 y, hrs, raisedE, hx0]
            dsimp only
            rw [if_neg hup, if_pos hdn]
            by_cases ey : y = x
            · rw [if_pos (by rw [ey])]
              simp [ey]
            · rw [if_neg (fun z => ey (Sum.inr.inj z)), if_neg ey]
        · refine ifF hw ?_
          simp only [List.mem_cons, List.mem_nil_iff, or_false, not_or] at hw
          refine hR _ _ ⟨rfl, fun b u nb e' => s4 _ _ (sp _ _ e'), _, p4, fun y => ?_, by omega⟩
          rw [hrs, raisedE, k2 y]
          cases e.o with
          | none => rfl
          | some x =>
            dsimp only
            rw [if_neg hw.1, if_neg hw.2]
      · rintro σ' H3 ⟨rfl, s3, kvs', p1, p2, p3⟩
        have hD3 : H3 D = some (.lst ((ds' ++ [d]).map V.ref)) := s3 D _ npD.symm q1
        refine ⟨_, rfl, .inl ⟨rfl, _, SqL.of hD3⟩, _, rfl, D, _, _, rfl, rfl, hD3, ?_, ?_⟩
        · rw [List.length_map, q2]
          exact Nat.lt_of_le_of_lt (show i + 1 ≤ 1000 by omega) (by decide)
        · refine ⟨⟨_, _, _, _, rfl⟩, fun b u e' => ?_, ?_⟩
          · have nb : b ≠ D := ne_of_none e' hD0
            rw [upd_ne nb]
            exact s3 b u (ne_of_none (s2 b u e') hpn) (s2 b u e')
          · refine DictsAt.push (p := p) (kvs := kvs') q2 q3 (fun b kv e' => ?_) ?_ ⟨p2, p3⟩ upd_same
            · have nb : b ≠ D := ne_kind e' q1 (by intro z; cases z)
              rw [upd_ne nb]
              exact s3 b _ (ne_of_none e' hpn) e'
            · rw [upd_ne npD]
              exact p1
    · rintro σ H' ⟨⟨w1, w2, w3, w4, rfl⟩, s2, q⟩
      rw [hlen] at q
      exact ⟨_, rfl, k H' D s2 hD0 q⟩
end
end Lg

namespace Lg
open PySem L2 TL
/-- facts of the class Log -/
structure LogC (K : PySem.W.Frag) (C : Addr) : Prop where
  cl : Cls K C
  n_rows : NoAttr K C "rows"
  n_names : NoAttr K C "names"
  n_kinds : NoAttr K C "kinds"
  n_forks : NoAttr K C "forks"
  n_first : NoAttr K C "first"
  n_cells : NoAttr K C "cells"
  n_held : NoAttr K C "held"
  n_raised : NoAttr K C "raised"
  n_graph : NoAttr K C "graph"
/-- a value at the beginning of each of these, fit for its kind -/
def FirstOk (kk fv : List (Key × V)) (ks : List Str) (κ : Str → Kd) : Prop := fv.map (·.1) = ks.map Sum.inr ∧ ks.length ≤ 500 ∧
  ∀ x ∈ ks, nameOk x = true ∧ ∃ i, valV fv (Sum.inr x) = some (.int i) ∧ valV kk (Sum.inr x) = some (.str (κ x).str) ∧ (κ x = .cell ∨ (κ x = .counter ∧ 0 ≤ i))
section
variable {P : Program} {w : World} {K : PySem.W.Frag} {mg : Str → Option Value} {base : Heap} {f : Addr} {fd : FuncData} {C : Addr} {cc PT : Addr} {TT : List (Addr × Str)}
abbrev s_Log_check_first : Stmt := inClass (top 23) 1
theorem sc_Log_check_first : FnScope ["self", "first", "name"] ["self", "first"] (defScope s_Log_check_first) := ⟨rfl, rfl, rfl, by decide +kernel, rfl, by decide +kernel, by decide +kernel⟩
def qCf : Str := "Log.check_first.<locals>.<lambda>"
def spCF (K : PySem.W.Frag) (C : Addr) (TT : List (Addr × Str)) : Sp := fun vs H Q _ => ∃ (l dx kd fa : Addr) (fs : List (Str × V)) (kk fv : List (Key × V)) (ks : List Str) (κ : Str → Kd), vs = [.ref l, .ref fa] ∧ H l = some (.ins C dx fs) ∧ fs.lookup ("kinds" : Str) = some (V.ref kd) ∧
  H kd = some (.dK kk) ∧ H fa = some (.dK fv) ∧ FirstOk kk fv ks κ ∧ LamX.Tabs TT H ∧ ∀ H', StepN [] H H' → LamX.Tabs TT H' → Q .non H'
theorem ok_check_first (F : FunC K "check_first" "Log.check_first" s_Log_check_first f fd cc) (T : Gb K mg) (TC : LogC K C) (TB : LamX.TabB base mg cc PT) (hmT : (PT, qCf) ∈ TT) (huT : ∀ p ∈ TT, p.1 = PT → p.2 = qCf)
    (cInt : C0 P w K mg base 1 "is_integer" ["thing"] (spInt K)) :
    FnOk P w K mg base CX0 2 f fd ["self", "first"] (spCF K C TT) := by
  obtain ⟨_, _, cInt⟩ := cInt
  refine F.ok sc_Log_check_first (fun vs H Q E h => ?_) (fun A outer s H vs Q E hr h => ?_)
  · obtain ⟨l, dx, kd, fa, fs, kk, fv, ks, κ, rfl, _⟩ := h
    rfl
  · obtain ⟨l, dx, kd, fa, fs, kk, fv, ks, κ, rfl, hl, hfk, hkd, hfa, ⟨hks, hkl, hok⟩, hT, k⟩ := h
    have hu := hu_of hr
    have hcode : (cxOf CX0 P w K mg base ["self", "first", "name"] "Log.check_first" (defScope s_Log_check_first) f (.ref cc) A outer s H E).nox.env.code = .ref cc := rfl
    refine ⟨_, pss_one (ps_for PassesOwn.never rfl (pi_list (Srl.pe_srl (T := TT) TB hcode hmT huT T.m_sorted T.m_repr (by rfl) rfl (hr.mono (by decide)) (by decide +kernel) (by decide +kernel) Srl.hbd_key (pa_cons (pv 1) pa_nil))) (pg_name (i := 2) sc_Log_check_first.nd rfl (Or.inl rfl))
      (pss_cons (ps_if (PW.pt (pw_or (pt_not (pt_val (pe_callB call_isi (by rfl) T.m_isinstance PyProof.Rows.boot_isinstance (pa_cons (pv 2) (pa_cons (pe_bltn (v := .ty "str") (by rfl) T.m_str (by decide +kernel) rfl) pa_nil))))) (pw_or1 (pt_cmpR op_notIn_seq (pe_dget1 hu (pe_fld (pv 0) rfl) (pv 2) (by exact ⟨rfl, rfl, rfl, rfl⟩)) (pe_tup (pa_cons pe_str (pa_cons pe_str pa_nil))) rfl)))) (pss_one (ps_never)) (pss_nil))
    (pss_one (ps_if (PW.pt (pw_or (pt_not (pt_val (pe_call cInt.ok (hr.mono (by decide)) (by rfl) cInt.mg cInt.kp cInt.bd .nil pass0 (pa_cons (pe_dget hu (pv 1) (pv 2) (fun _ _ => rfl)) pa_nil)))) (pw_or1 (PW.pt (pw_and (pt_cmpR op_eq (pe_dget hu (pe_fld (pv 0) rfl) (pv 2) (fun _ _ => rfl)) pe_str (nomark _)) (pw_and1 (pt_cmpR op_lt (pe_dget hu (pv 1) (pv 2) (fun _ _ => rfl)) pe_int (nomark _)))))))) (pss_one (ps_never)) (pss_nil))))), ?_⟩
    refine ⟨_, rfl, fa, fv, ks, rfl, hfa, hks, by omega, fun y hy => name_repr (hok y hy).1, hT, fun H2 p e2 t2 hp => ?_⟩
    have hpm : (Srl.byRepr ks).Perm ks := byRepr_perm _
    generalize Srl.byRepr ks = zs at hpm ⊢
    have s2 : StepN [] H (upd H2 p (.lst (zs.map V.str))) := (StepB.ext e2).trans (.new hp)
    have t3 : LamX.Tabs TT (upd H2 p (.lst (zs.map V.str))) := t2.ext (same_new hp)
    have hp3 : (upd H2 p (.lst (zs.map V.str))) p = some (.lst (zs.map V.str)) := upd_same
    generalize upd H2 p (.lst (zs.map V.str)) = H3 at s2 t3 hp3 ⊢
    have l3 := s2.oth l _ (by simp) rfl hl
    have k3 := s2.oth kd _ (by simp) rfl hkd
    have f3 := s2.oth fa _ (by simp) rfl hfa
    refine ⟨p, rfl, ⟨_, SqL.of hp3⟩, ?_⟩
    refine for_list (K := K) (a := p) (xs := zs.map V.str) (fun i σ H' => (∃ w1 : Option V, σ = [some (.ref l), some (.ref fa), w1]) ∧ Same H3 H') ⟨⟨_, rfl⟩, Same.refl _⟩ (fun i σ H' _ q => q.2.seq (SqL.of hp3)) ?_ ?_
    · rintro i x σ H4 hi ⟨⟨w1, rfl⟩, s4⟩
      rw [List.getElem?_map] at hi
      cases hki : zs[i]? with
      | none => rw [hki] at hi; cases hi
      | some t =>
        rw [hki] at hi
        cases hi
        obtain ⟨hnm, j, hj1, hj2, hj3⟩ := hok t (hpm.mem_iff.mp (List.mem_of_getElem? hki))
        refine st_ifW (fun H5 => Same H3 H5) (fun R hR => ?_) (fun H5 s5 => ?_)
        · refine ⟨_, rfl, _, _, _, _, true, rfl, .ty _, ty_str _, kit_ty (by decide +kernel), true, rfl, iteF ?_⟩
          refine ⟨_, rfl, l, C, dx, _, _, rfl, s4 _ _ l3, TC.cl, TC.n_kinds, hfk, kd, rfl, .inl ⟨kk, .inl (s4 _ _ k3)⟩, _, rfl, _, DGet.k (k := Sum.inr t) (s4 _ _ k3), ?_⟩
          rw [hj2]
          refine ⟨by show 2 ≤ sizeLine; decide, fun q hq => ?_⟩
          refine ⟨q, (["cell", "counter"] : List Str).map V.str, rfl, .inr (SqT.of upd_same), rfl, rfl, _, rfl, ?_⟩
          rw [if_pos rfl]
          refine ifB (c := !decide ((κ t).str ∈ (["cell", "counter"] : List Str))) (by rw [show (some (V.str (κ t).str)).getD V.non = V.str (κ t).str from rfl, in_strs]) ?_
          refine iteNS ?_ (hR _ (s4.trans (same_new hq)))
          rcases hj3 with q3 | ⟨q3, _⟩ <;> rw [q3] <;> decide +kernel
        · refine st_ifl ?_
          refine ⟨_, rfl, _, rfl, fa, _, rfl, by rw [← hj1]; exact DGet.k (k := Sum.inr t) (s5 _ _ f3), ?_⟩
          refine ⟨_, "int", rfl, .base (.int _), by decide, _, rfl, iteF ?_⟩
          refine ⟨_, rfl, l, C, dx, _, _, rfl, s5 _ _ l3, TC.cl, TC.n_kinds, hfk, _, rfl, kd, _, rfl, by rw [← hj2]; exact DGet.k (k := Sum.inr t) (s5 _ _ k3), rfl, _, rfl, ?_⟩
          rcases hj3 with q3 | ⟨q3, h0⟩
          · rw [q3]
            exact ifF (by decide +kernel) (iteF ⟨⟨_, rfl⟩, s5⟩)
          · rw [q3]
            refine ifT rfl ?_
            refine ⟨_, rfl, _, rfl, fa, _, rfl, by rw [← hj1]; exact DGet.k (k := Sum.inr t) (s5 _ _ f3), _, _, rfl, rfl, _, rfl, ?_⟩
            exact ifF (by omega) ⟨⟨_, rfl⟩, s5⟩
    · rintro σ H' ⟨_, s4⟩
      exact k H' (s2.trans (.of s4)) (t3.ext s4)
end
end Lg

namespace Lg
open PySem L2 TL
/-- an own class that is made by its name -/
structure CalK (P : Program) (w : World) (K : PySem.W.Frag) (mg : Str → Option Value) (base : Heap) (k : Nat) (C : Addr) (x : Str) (f : Addr) (fd : FuncData) (ps : List Str) (sp : Sp) : Prop where
  ok : FnOk P w K mg base CX0 k f fd ps sp
  M : Mk K C f
  mg : mg x = some (.ref C)
  bd : Binds K fd ps []
abbrev K0 (P : Program) (w : World) (K : PySem.W.Frag) (mg : Str → Option Value) (base : Heap) (k : Nat) (C : Addr) (x : Str) (ps : List Str) (sp : Sp) : Prop := ∃ f fd, CalK P w K mg base k C x f fd ps sp
/-- a def with defaults -/
structure FunD (K : PySem.W.Frag) (x qual : Str) (st : Stmt) (f : Addr) (fd : FuncData) : Prop where
  ex : ∃ (oc : Value) (od : Option Addr) (dV kV doc pm : Value) (an : Option Addr) (cdv ct : Value) (osl : Array (Option Value)),
    fd = PySem.W.fnOf x qual (defArgs st) (defBody st) (defScope st) dV kV doc pm an cdv ct ∧ K.lookup f = some ⟨oc, od, .func fd, osl⟩ ∧ PySem.W.codeIn K cdv qual = true
section
variable {P : Program} {w : World} {K : PySem.W.Frag} {mg : Str → Option Value} {base : Heap}
theorem FunD.ok {x qual : Str} {st : Stmt} {f : Addr} {fd : FuncData} {N ps : List Str} {k : Nat} {sp : Sp} (F : FunD K x qual st f fd) (S : FnScope N ps (defScope st)) (len : ∀ vs H Q E, sp vs H Q E → vs.length = ps.length)
    (hbody : ∀ (cdv : Value) (A : Around) (outer : List Env) (s : Shared) (H : Hp) (vs : List V) (Q : VK) (E : XK), Room k (A.deeper (PyProof.Rows.envOfC qual (defScope st) s.heap.objs.size f cdv)) → sp vs H Q E →
      ∃ t, PSs (cxOf CX0 P w K mg base N qual (defScope st) f cdv A outer s H E).nox (defBody st) t ∧ t { nx := fun _ H' => Q .non H', rt := Q } (start N vs) H) : FnOk P w K mg base CX0 (k + 1) f fd ps sp := by
  obtain ⟨oc, od, dV, kV, doc, pm, an, cdv, ct, osl, rfl, lk, hcd⟩ := F.ex
  refine fn_of lk hcd S len fun A outer s H vs Q E hr hsp => ?_
  obtain ⟨t, h, q⟩ := hbody cdv A outer s H vs Q E hr hsp
  exact ⟨t, h.nox, q⟩
end
/-! ### the rows as a log keeps them: tuples -/
def TRowAt (K : PySem.W.Frag) (H : Hp) (v : V) (es : List Ev) : Prop := ∃ a xs, v = .ref a ∧ SqT K H a xs ∧ Paired (EvAt K H) xs es
def TRw (K : PySem.W.Frag) (H : Hp) (kv : Key × V) (p : Str × List Ev) : Prop := kv.1 = Sum.inr p.1 ∧ TRowAt K H kv.2 p.2
def TRowsAt (K : PySem.W.Frag) (H : Hp) (ra : Addr) (rows : Rows) : Prop := ∃ kvs, H ra = some (.dK kvs) ∧ Paired (TRw K H) kvs rows
theorem TRowAt.row {K : PySem.W.Frag} {H : Hp} {v : V} {es : List Ev} (h : TRowAt K H v es) : RowAt K H v es := let ⟨a, xs, e, h1, h2⟩ := h; ⟨a, xs, e, .inr h1, h2⟩
theorem TRowAt.step {K : PySem.W.Frag} {nt : Bool} {l : List Addr} {H H' : Hp} {v : V} {es : List Ev} (s : StepB nt l H H') (h : TRowAt K H v es) : TRowAt K H' v es := let ⟨a, xs, e, h1, h2⟩ := h; ⟨a, xs, e, sqt_step s h1, evs_step s h2⟩
theorem trw_step {K : PySem.W.Frag} {nt : Bool} {l : List Addr} {H H' : Hp} (s : StepB nt l H H') : ∀ {kvs : List (Key × V)} {rows : Rows}, Paired (TRw K H) kvs rows → Paired (TRw K H') kvs rows
  | _, _, .nil => .nil
  | _, _, .cons h hs => .cons ⟨h.1, h.2.step s⟩ (trw_step s hs)
theorem TRowsAt.step {K : PySem.W.Frag} {nt : Bool} {l : List Addr} {H H' : Hp} {ra : Addr} {rows : Rows} (s : StepB nt l H H') (hr : ra ∉ l) (h : TRowsAt K H ra rows) : TRowsAt K H' ra rows := by
  obtain ⟨kvs, h1, h2⟩ := h
  exact ⟨kvs, s.oth ra _ hr rfl h1, trw_step s h2⟩
theorem trw_rws {K : PySem.W.Frag} {H : Hp} : ∀ {kvs : List (Key × V)} {rows : Rows}, Paired (TRw K H) kvs rows → Paired (RwsR K H) kvs rows
  | _, _, .nil => .nil
  | _, _, .cons h hs => .cons ⟨h.1, h.2.row⟩ (trw_rws hs)
theorem TRowsAt.rows {K : PySem.W.Frag} {H : Hp} {ra : Addr} {rows : Rows} (h : TRowsAt K H ra rows) : RowsAt K H ra rows := let ⟨kvs, h1, h2⟩ := h; ⟨kvs, h1, trw_rws h2⟩
theorem paired_push {α β : Type} {R : α → β → Prop} {as : List α} {bs : List β} {a : α} {b : β} (h : Paired R as bs) (r : R a b) : Paired R (as ++ [a]) (bs ++ [b]) := by
  induction h with
  | nil => exact .cons r .nil
  | cons h _ ih => exact .cons h ih
abbrev rSortD : List V → Hp → VK → Prop := fun xs H Q => ∃ a kvs ks, xs = [V.ref a] ∧ Rd H a (.dK kvs) ∧ kvs.map (·.1) = ks.map Sum.inr ∧ ks.length < 64 ∧ ∀ (ys : List Str) (p : Addr), ys.Perm ks → PyProof.Rows.sortedS ys = true → H p = none → Q (.ref p) (upd H p (.lst (ys.map V.str)))
abbrev rTupOf (K : PySem.W.Frag) : List V → Hp → VK → Prop := fun xs H Q => ∃ p ys, xs = [V.ref p] ∧ ((SqL K H p ys ∧ ∀ l, H l = none → Q (.ref l) (upd H l (.tup ys))) ∨ (SqT K H p ys ∧ Q (.ref p) H))
theorem rows_at {K : PySem.W.Frag} {H : Hp} {ra : Addr} {rows : Rows} (h : RowsAt K H ra rows) {t : Str} (ht : t ∈ rows.map (·.1)) : ∃ kvs v, H ra = some (.dK kvs) ∧ valV kvs (Sum.inr t) = some v ∧ RowAt K H v (rowOf rows t) := by
  obtain ⟨kvs, h1, h2⟩ := h
  obtain ⟨es, he⟩ := lookup_mem ht
  obtain ⟨v, h3, h4⟩ := (rws_val (x := t) h2).1 es he
  exact ⟨kvs, v, h1, h3, by rw [rowOf, he]; exact h4⟩
/-- {thread: tuple(rows[thread]) for thread in sorted(rows)} -/
theorem rd_rows {K : PySem.W.Frag} {H : Hp} {Q : VK} {ra : Addr} {rows : Rows} {v0 v2 v3 v4 v5 v6 v7 v8 : Option V} (h : RowsAt K H ra rows) (hnd : (rows.map (·.1)).Nodup) (hl : rows.length ≤ 50)
    (k : ∀ H' D ns, Same H H' → H D = none → ns.Perm (rows.map (·.1)) → PyProof.Rows.sortedS ns = true → TRowsAt K H' D (ns.map fun t => (t, rowOf rows t)) → Q (.ref D) H') :
    tDc (iList K (tCB rSortD (tCons (tVar 1) tNil))) (gName 3) tYes (tVar 3) (tCB (rTupOf K) (tCons (tDGet (tVar 1) (tVar 3)) tNil)) [3] [v0, some (.ref ra), v2, v3, v4, v5, v6, v7, v8] H Q := by
  obtain ⟨kvs, r1, r2⟩ := id h
  refine ⟨_, rfl, ra, kvs, rows.map (·.1), rfl, .inl r1, rws_keys r2, by rw [List.length_map]; omega, fun ns p hpm hsrt hp => ⟨p, rfl, ⟨_, SqL.of upd_same⟩, fun D hD => ?_⟩⟩
  have s1 : Same H (upd H p (.lst (ns.map V.str))) := same_new hp
  have hp1 : (upd H p (.lst (ns.map V.str))) p = some (.lst (ns.map V.str)) := upd_same
  generalize upd H p (.lst (ns.map V.str)) = H1 at s1 hp1 hD ⊢
  have hnn : ns.Nodup := hpm.nodup_iff.mpr hnd
  have hln : ns.length ≤ 50 := by rw [hpm.length_eq, List.length_map]; exact hl
  refine dc_it (walk_list (K := K) (a := p) (xs := ns.map V.str)) (fun i H' => Same H1 H' ∧ ∃ kv, H' D = some (.dK kv) ∧ Paired (TRw K H') kv ((ns.take i).map fun t => (t, rowOf rows t))) ⟨same_new hD, [], upd_same, .nil⟩ (fun i H' _ q => q.1.seq (SqL.of hp1)) ?_ ?_
  · rintro i x H2 H' hi ⟨s2, kv, q1, q2⟩ ⟨rfl, hx⟩
    rw [List.getElem?_map] at hx
    cases hki : ns[i]? with
    | none => rw [hki] at hx; cases hx
    | some t =>
      rw [hki] at hx
      cases hx
      have hmem : t ∈ rows.map (·.1) := hpm.mem_iff.mp (List.mem_of_getElem? hki)
      obtain ⟨kvs2, v, e1, e2, a, xs, rfl, ha, hpp⟩ := rows_at (h.step (nt := true) (l := []) (.of (s1.trans s2)) (by simp) (by simp)) hmem
      have hkn : valV kv (Sum.inr t) = none := by
        cases q : valV kv (Sum.inr t) with
        | none => rfl
        | some u =>
          have q3 := valV_in q
          have q4 : kv.map (·.1) = (ns.take i).map Sum.inr := by
            have := rws_keys (trw_rws q2)
            rw [this, List.map_map, List.map_map]
            rfl
          rw [q4] at q3
          obtain ⟨t', ht', e3⟩ := List.mem_map.mp q3
          have e4 : t' = t := Sum.inr.inj e3
          subst e4
          obtain ⟨j, hj⟩ := List.getElem?_of_mem ht'
          have hji : j < i := by
            have := (List.getElem?_eq_some_iff.mp hj).1
            rw [List.length_take] at this
            omega
          rw [List.getElem?_take_of_lt hji] at hj
          have := (List.getElem?_inj (List.getElem?_eq_some_iff.mp hj).1 hnn).mp (hj.trans hki.symm)
          omega
      have e5 : (ns.take (i + 1)).map (fun t => (t, rowOf rows t)) = (ns.take i).map (fun t => (t, rowOf rows t)) ++ [(t, rowOf rows t)] := by
        rw [List.take_add_one, hki, List.map_append]
        rfl
      have hkl : kv.length < sizeLine := by
        have := Paired.length q2
        rw [this, List.length_map]
        exact Nat.lt_of_le_of_lt (Nat.le_trans (List.length_take_le' _ _) (show ns.length ≤ 1000 by omega)) (by decide)
      refine ⟨rfl, yes_then ?_⟩
      refine ⟨_, rfl, _, rfl, _, rfl, ra, _, rfl, by rw [← e2]; exact DGet.k (k := Sum.inr t) e1, a, xs, rfl, ?_⟩
      have fin : ∀ (H4 : Hp) (b : Addr), Same H' H4 → SqT K H4 b xs → ∃ kvs k, V.str t = kV k ∧ H4 D = some (.dK kvs) ∧ kvs.length < sizeLine ∧ Same H1 (upd H4 D (.dK (putK kvs k (.ref b)))) ∧
          ∃ kv', (upd H4 D (.dK (putK kvs k (.ref b)))) D = some (.dK kv') ∧ Paired (TRw K (upd H4 D (.dK (putK kvs k (.ref b))))) kv' ((ns.take (i + 1)).map fun t => (t, rowOf rows t)) := fun H4 b s4 hb => by
        have st : Step [D] H4 (upd H4 D (.dK (putK kv (Sum.inr t) (.ref b)))) := .put (s4 _ _ q1) rfl
        refine ⟨kv, Sum.inr t, rfl, s4 _ _ q1, hkl, fun c u e => ?_, _, upd_same, ?_⟩
        · rw [upd_ne (fun z => by rw [z, hD] at e; cases e)]
          exact s4 _ _ (s2 _ _ e)
        · rw [putK_new _ hkn, e5] at *
          exact paired_push (trw_step st (trw_step (nt := true) (l := []) (.of s4) q2)) ⟨rfl, b, xs, rfl, sqt_step st hb, evs_step st (evs_step (nt := true) (l := []) (.of s4) hpp)⟩
      rcases ha with ha | ha
      · exact .inl ⟨ha, fun q hq => fin _ q (same_new hq) (SqT.of upd_same)⟩
      · exact .inr ⟨ha, fin _ a (Same.refl _) ha⟩
  · rintro H2 ⟨s2, kv, q1, q2⟩
    have e : ns.take (ns.map V.str).length = ns := List.take_of_length_le (by rw [List.length_map]; exact Nat.le_refl _)
    rw [e] at q2
    exact k H2 D ns (s1.trans s2) (s1.free hD) hpm hsrt ⟨kv, q1, q2⟩
end Lg

namespace Lg
open PySem L2 TL
/-- the kinds that the objects of a log have -/
def objK : Kd → Bool
  | .cell => true
  | .lock => true
  | .counter => true
  | _ => false
theorem objK_in (k : Kd) : decide (k.str ∈ (["", "thread"] : List Str)) = !objK k := by
  cases k <;> decide +kernel
/-- x is the object of an event that was gone through: the threads ahead of j, and i events of the j-th -/
def Pd (rows : Rows) (j i : Nat) (x : Str) : Prop := ∃ (j' : Nat) (p : Str × List Ev) (i' : Nat) (e : Ev), rows[j']? = some p ∧ p.2[i']? = some e ∧ e.o = some x ∧ objK (kdOf e.w) = true ∧ (j' < j ∨ (j' = j ∧ i' < i))
theorem Pd.next {rows : Rows} {j i : Nat} {p : Str × List Ev} {e : Ev} (hp : rows[j]? = some p) (he : p.2[i]? = some e) (x : Str) : Pd rows j (i + 1) x ↔ Pd rows j i x ∨ (e.o = some x ∧ objK (kdOf e.w) = true) := by
  constructor
  · rintro ⟨j', p', i', e', h1, h2, h3, h4, h5⟩
    rcases h5 with h5 | ⟨rfl, h5⟩
    · exact .inl ⟨j', p', i', e', h1, h2, h3, h4, .inl h5⟩
    · by_cases hi : i' = i
      · subst hi
        rw [hp] at h1
        cases h1
        rw [he] at h2
        cases h2
        exact .inr ⟨h3, h4⟩
      · exact .inl ⟨j', p', i', e', h1, h2, h3, h4, .inr ⟨rfl, by omega⟩⟩
  · rintro (⟨j', p', i', e', h1, h2, h3, h4, h5⟩ | ⟨h3, h4⟩)
    · exact ⟨j', p', i', e', h1, h2, h3, h4, h5.imp id fun q => ⟨q.1, by omega⟩⟩
    · exact ⟨j, p, i, e, hp, he, h3, h4, .inr ⟨rfl, Nat.lt_succ_self _⟩⟩
theorem Pd.row {rows : Rows} {j : Nat} {p : Str × List Ev} (hp : rows[j]? = some p) (x : Str) : Pd rows (j + 1) 0 x ↔ Pd rows j p.2.length x := by
  constructor
  · rintro ⟨j', p', i', e', h1, h2, h3, h4, h5⟩
    refine ⟨j', p', i', e', h1, h2, h3, h4, ?_⟩
    by_cases hj : j' = j
    · subst hj
      rw [hp] at h1
      cases h1
      exact .inr ⟨rfl, (List.getElem?_eq_some_iff.mp h2).1⟩
    · exact .inl (by omega)
  · rintro ⟨j', p', i', e', h1, h2, h3, h4, h5⟩
    exact ⟨j', p', i', e', h1, h2, h3, h4, .inl (by omega)⟩
theorem Pd.none {rows : Rows} (x : Str) : ¬ Pd rows 0 0 x := by
  rintro ⟨j', p', i', e', h1, h2, h3, h4, h5⟩
  omega
/-- x is an object of the log -/
def objOf (rows : Rows) (x : Str) : Prop := ∃ p ∈ rows, ∃ e ∈ p.2, e.o = some x ∧ objK (kdOf e.w) = true
theorem Pd.all {rows : Rows} (x : Str) : Pd rows rows.length 0 x ↔ objOf rows x := by
  constructor
  · rintro ⟨j', p', i', e', h1, h2, h3, h4, h5⟩
    exact ⟨p', List.mem_of_getElem? h1, e', List.mem_of_getElem? h2, h3, h4⟩
  · rintro ⟨p, hp, e, he, h3, h4⟩
    obtain ⟨j, hj⟩ := List.getElem?_of_mem hp
    obtain ⟨i, hi⟩ := List.getElem?_of_mem he
    exact ⟨j, p, i, e, hj, hi, h3, h4, .inl (List.getElem?_eq_some_iff.mp hj).1⟩
/-- all keys are texts, none twice -/
def KeysT (kk : List (Key × V)) (ks : List Str) : Prop := kk.map (·.1) = ks.map Sum.inr ∧ ks.Nodup
theorem KeysT.put {kk : List (Key × V)} {ks : List Str} (h : KeysT kk ks) (x : Str) (v : V) : ∃ ks', KeysT (putK kk (Sum.inr x) v) ks' := by
  cases q : valV kk (Sum.inr x) with
  | none =>
    refine ⟨ks ++ [x], ?_, ?_⟩
    · rw [putK_new v q, List.map_append, h.1, List.map_append]
      rfl
    · refine nd_snoc h.2 fun hx => valV_not q ?_
      rw [h.1]
      exact List.mem_map_of_mem hx
  | some u =>
    refine ⟨ks, ?_, h.2⟩
    unfold putK
    rw [valV_any, q]
    rw [if_pos (show (some u).isSome = true from rfl), List.map_map, ← h.1]
    refine List.map_congr_left fun kv _ => ?_
    show (if kv.1 = Sum.inr x then (kv.1, v) else kv).1 = kv.1
    split <;> rfl
theorem KeysT.mem {kk : List (Key × V)} {ks : List Str} (h : KeysT kk ks) (x : Str) : x ∈ ks ↔ (valV kk (Sum.inr x)).isSome = true := by
  constructor
  · intro hx
    cases q : valV kk (Sum.inr x) with
    | none =>
      refine absurd ?_ (valV_not q)
      rw [h.1]
      exact List.mem_map_of_mem hx
    | some u => rfl
  · intro hx
    obtain ⟨u, q⟩ := Option.isSome_iff_exists.mp hx
    have q2 := valV_in q
    rw [h.1] at q2
    obtain ⟨y, hy, e⟩ := List.mem_map.mp q2
    rw [← Sum.inr.inj e]
    exact hy
/-- the kinds of the objects gone through -/
structure KInv (kk : List (Key × V)) (κ : Str → Kd) (S : Str → Prop) (n : Nat) : Prop where
  mem : ∀ x, (valV kk (Sum.inr x)).isSome = true ↔ S x
  ok : KindsOk kk κ
  keys : ∃ ks, KeysT kk ks
  len : kk.length ≤ n
theorem KInv.iff {kk : List (Key × V)} {κ : Str → Kd} {S S' : Str → Prop} {n m : Nat} (h : KInv kk κ S n) (hs : ∀ x, S' x ↔ S x) (hm : n ≤ m) : KInv kk κ S' m := ⟨fun x => (h.mem x).trans (hs x).symm, h.ok, h.keys, Nat.le_trans h.len hm⟩
theorem KInv.put {kk : List (Key × V)} {κ : Str → Kd} {S S' : Str → Prop} {n : Nat} {x : Str} (h : KInv kk κ S n) (hs : ∀ y, S' y ↔ S y ∨ y = x) : KInv (putK kk (Sum.inr x) (.str (κ x).str)) κ S' (n + 1) := by
  obtain ⟨ks, hk⟩ := h.keys
  refine ⟨fun y => ?_, fun y v e => ?_, hk.put _ _, Nat.le_trans (length_putK _ _ _) (Nat.succ_le_succ h.len)⟩
  · rw [valV_put, hs y]
    by_cases e : y = x
    · rw [if_pos (by rw [e])]
      simp [e]
    · rw [if_neg (fun z => e (Sum.inr.inj z)), h.mem y]
      simp [e]
  · rw [valV_put] at e
    by_cases e2 : y = x
    · rw [if_pos (by rw [e2])] at e
      cases e
      rw [e2]
    · rw [if_neg (fun z => e2 (Sum.inr.inj z))] at e
      exact h.ok y v e
def cnt (rows : Rows) (j i : Nat) : Nat := ((rows.take j).map (·.2)).flatten.length + i
theorem cnt_row {rows : Rows} {j : Nat} {p : Str × List Ev} (hp : rows[j]? = some p) : cnt rows (j + 1) 0 = cnt rows j p.2.length := by
  unfold cnt
  rw [List.take_add_one, hp, List.map_append, List.flatten_append, List.length_append]
  simp
theorem cnt_le {rows : Rows} {j i : Nat} {p : Str × List Ev} (hp : rows[j]? = some p) (hi : i ≤ p.2.length) (h : (rows.map (·.2)).flatten.length ≤ 40) : cnt rows j i ≤ 40 := by
  have h1 : cnt rows j i ≤ cnt rows (j + 1) 0 := by
    rw [cnt_row hp]
    unfold cnt
    omega
  refine Nat.le_trans h1 (Nat.le_trans ?_ h)
  unfold cnt
  rw [← List.take_append_drop (j + 1) rows, List.map_append, List.flatten_append, List.length_append, List.take_append_drop]
  omega
theorem Good.at {rows : Rows} {κ : Str → Kd} (g : Good rows κ) {p : Str × List Ev} (hp : p ∈ rows) {i : Nat} {e : Ev} (he : p.2[i]? = some e) : EvGood rows κ p.1 p.2.length i e := (g.row p.1 p.2 (lookup_of g.nd hp)).ev i e he
/-- what the log's __init__ writes by a run through all events -/
abbrev tKdBody (K : PySem.W.Frag) : TS := tSeq
  (tIfS (tTest (tOp (rIn K true) (tCall spKind [] E0 (tCons (tVar 6) tNil)) (tTup (tCons (tC (.str "")) (tCons (tC (.str "thread")) tNil)))))
    (sDPut (tFld K (tVar 0) "kinds") (tVar 7) (tCall spKind [] E0 (tCons (tVar 6) tNil))) tNext)
  (tIfS (tTest (tOp rEq (tVar 6) (tC (.str "fork")))) (sDPut (tFld K (tVar 0) "forks") (tVar 7) (tTup (tCons (tVar 3) (tCons (tVar 5) tNil)))) tNext)
abbrev tKinds (K : PySem.W.Frag) : TS := tLock (tFor (iItems (tFld K (tVar 0) "rows")) (gTup K 2 (gCons (gName 3) (gCons (gName 4) gNil)))
  (tFor (EnT.iEnumA K (tCons (tVar 4) tNil)) (gTup K 2 (gCons (gName 5) (gCons (gTup K 3 (gCons (gName 6) (gCons (gName 7) (gCons (gName 8) gNil)))) gNil))) (tKdBody K)))
/-- a log under way -/
structure LInv (K : PySem.W.Frag) (H : Hp) (C l dx ra kd fo : Addr) (fs : List (Str × V)) (kvs : List (Key × V)) (rows : Rows) (od : Obj) (κ : Str → Kd) (S : Str → Prop) (n nf : Nat) : Prop where
  ins : H l = some (.ins C dx fs)
  rws : H ra = some (.frz od (.dK kvs))
  prs : Paired (TRw K H) kvs rows
  kds : ∃ kk, H kd = some (.dK kk) ∧ KInv kk κ S n
  fks : ∃ ff, H fo = some (.dK ff) ∧ ff.length ≤ nf
theorem LInv.same {K : PySem.W.Frag} {H H' : Hp} {C l dx ra kd fo : Addr} {fs : List (Str × V)} {kvs : List (Key × V)} {rows : Rows} {od : Obj} {κ : Str → Kd} {S : Str → Prop} {n nf : Nat} (h : LInv K H C l dx ra kd fo fs kvs rows od κ S n nf) (s : Same H H') : LInv K H' C l dx ra kd fo fs kvs rows od κ S n nf := by
  obtain ⟨kk, k1, k2⟩ := h.kds
  obtain ⟨ff, f1, f2⟩ := h.fks
  exact ⟨s _ _ h.ins, s _ _ h.rws, trw_step (nt := true) (l := []) (.of s) h.prs, ⟨kk, s _ _ k1, k2⟩, ⟨ff, s _ _ f1, f2⟩⟩
theorem LInv.iff {K : PySem.W.Frag} {H : Hp} {C l dx ra kd fo : Addr} {fs : List (Str × V)} {kvs : List (Key × V)} {rows : Rows} {od : Obj} {κ : Str → Kd} {S S' : Str → Prop} {n m nf mf : Nat} (h : LInv K H C l dx ra kd fo fs kvs rows od κ S n nf) (hs : ∀ x, S' x ↔ S x) (hm : n ≤ m) (hmf : nf ≤ mf) : LInv K H C l dx ra kd fo fs kvs rows od κ S' m mf := by
  obtain ⟨kk, k1, k2⟩ := h.kds
  obtain ⟨ff, f1, f2⟩ := h.fks
  exact ⟨h.ins, h.rws, h.prs, ⟨kk, k1, k2.iff hs hm⟩, ⟨ff, f1, Nat.le_trans f2 hmf⟩⟩
theorem rd_kinds {K : PySem.W.Frag} {H : Hp} {D : Ends} {C l dx ra kd fo : Addr} {fs : List (Str × V)} {rows : Rows} {κ : Str → Kd} {v1 v2 v3 v4 v5 v6 v7 v8 : Option V} (TL : LogC K C)
    (hl : H l = some (.ins C dx fs)) (hf1 : fs.lookup ("rows" : Str) = some (V.ref ra)) (hf2 : fs.lookup ("kinds" : Str) = some (V.ref kd)) (hf3 : fs.lookup ("forks" : Str) = some (V.ref fo))
    (hr : TRowsAt K H ra rows) (hkd : H kd = some (.dK [])) (hfo : H fo = some (.dK [])) (ne : kd ≠ fo) (ne1 : ra ≠ kd) (ne2 : ra ≠ fo) (hg : Good rows κ)
    (k : ∀ H' kk, Step [kd, fo] H H' → H' kd = some (.dK kk) → KInv kk κ (objOf rows) 40 → ∀ w3 w4 w5 w6 w7 w8 : Option V, D.nx [some (.ref l), v1, v2, w3, w4, w5, w6, w7, w8] H') :
    tKinds K D [some (.ref l), v1, v2, v3, v4, v5, v6, v7, v8] H := by
  obtain ⟨kvs, r1, r2⟩ := hr
  have nel : l ≠ ra := ne_kind hl r1 (by intro z; cases z)
  have nlk : l ≠ kd := ne_kind hl hkd (by intro z; cases z)
  have nlf : l ≠ fo := ne_kind hl hfo (by intro z; cases z)
  refine ⟨ra, _, r1, trivial, fun od => ?_⟩
  have s0 : Step [ra] H (upd H ra (.frz od (.dK kvs))) := .put r1 rfl
  have i0 : LInv K (upd H ra (.frz od (.dK kvs))) C l dx ra kd fo fs kvs rows od κ (Pd rows 0 0) (cnt rows 0 0) (cnt rows 0 0) :=
    ⟨s0.oth l _ (by simpa using nel) rfl hl, upd_same, trw_step s0 r2, ⟨[], s0.oth kd _ (by simpa using ne1.symm) rfl hkd, ⟨fun x => ⟨fun z => (by cases z), fun z => absurd z (Pd.none x)⟩, fun x v e => (by cases e), ⟨[], rfl, List.nodup_nil⟩, Nat.zero_le _⟩⟩,
      ⟨[], s0.oth fo _ (by simpa using ne2.symm) rfl hfo, Nat.zero_le _⟩⟩
  refine ⟨_, rfl, l, C, dx, fs, _, rfl, i0.ins, TL.cl, TL.n_rows, hf1, ra, od, kvs, rfl, upd_same, ?_⟩
  generalize eH : upd H ra (.frz od (.dK kvs)) = H0 at s0 i0 ⊢
  have hlen : kvs.length = rows.length := Paired.length r2
  refine for_it (walk_items (d := ra) (o := od) (kvs := kvs)) (fun j σ H' => (∃ w3 w4 w5 w6 w7 w8 : Option V, σ = [some (.ref l), v1, v2, w3, w4, w5, w6, w7, w8]) ∧ Step [kd, fo] H0 H' ∧ LInv K H' C l dx ra kd fo fs kvs rows od κ (Pd rows j 0) (cnt rows j 0) (cnt rows j 0))
    ⟨⟨_, _, _, _, _, _, rfl⟩, .refl _ _, i0⟩ (fun j σ H' _ q => q.2.2.rws) ?_ ?_
  · rintro j x σ H1 H2 hj ⟨⟨w3, w4, w5, w6, w7, w8, rfl⟩, s1, i1⟩ ⟨Tp, y1, y2, rfl, hTp, rfl, e1, e2⟩
    obtain ⟨kv, hkv⟩ : ∃ kv, kvs[j]? = some kv := ⟨kvs[j], by simp [hj]⟩
    dsimp only at e1 e2
    rw [hkv] at e1 e2
    obtain ⟨p, hp, hk1, a, xs, e3, ha, hpp⟩ := paired_at i1.prs hkv
    have hpm : p ∈ rows := List.mem_of_getElem? hp
    have hkey : kV kv.1 = .str p.1 := by rw [hk1]; rfl
    have hy1 : y1 = .str p.1 := (Option.some.inj (show some (kV kv.1) = some y1 from e1)).symm.trans hkey
    have hy2 : y2 = .ref a := (Option.some.inj (show some kv.2 = some y2 from e2)).symm.trans e3
    subst hy1 hy2
    refine ⟨Tp, _, rfl, SqT.of upd_same, rfl, _, _, rfl, _, _, rfl, rfl, ?_⟩
    have s2 : Same H1 (upd H1 Tp (.tup [.str p.1, .ref a])) := same_new hTp
    generalize upd H1 Tp (.tup [.str p.1, .ref a]) = H2 at s2 ⊢
    have i2 := i1.same s2
    have st2 : Step [kd, fo] H0 H2 := s1.trans (.of s2)
    have ha2 := sqt_same s2 ha
    have hp2 := evs_same s2 hpp
    refine ⟨_, rfl, a, xs, rfl, .inr ha2, fun J hJ => ?_⟩
    obtain ⟨G, wk, hG⟩ := EnT.walk_enumA hJ
    have hlx : xs.length = p.2.length := Paired.length hpp
    refine for_it wk (fun i σ H' => (∃ w5 w6 w7 w8 : Option V, σ = [some (.ref l), v1, v2, some (.str p.1), some (.ref a), w5, w6, w7, w8]) ∧ i ≤ p.2.length ∧ Step [kd, fo] H2 H' ∧ LInv K H' C l dx ra kd fo fs kvs rows od κ (Pd rows j i) (cnt rows j i) (cnt rows j i))
      ⟨⟨_, _, _, _, rfl⟩, Nat.zero_le _, .refl _ _, i2⟩ ?_ ?_ ?_
    · rintro i σ H' _ ⟨_, _, st, _⟩
      have nl : ∀ b ∈ [kd, fo], noLst H2 b := by
        obtain ⟨_, q1, _⟩ := i2.kds
        obtain ⟨_, q2, _⟩ := i2.fks
        intro b hb
        simp at hb
        rcases hb with rfl | rfl
        · exact nol_dK q1
        · exact nol_dK q2
      exact hG H' (fun q => sql_step st nl q) (fun q => sqt_step st q)
    · rintro i x σ H3 H4 hi ⟨⟨w5, w6, w7, w8, rfl⟩, hile, st, i3⟩ ⟨Tq, z1, z2, rfl, hTq, rfl, e1, e2⟩
      cases e1
      obtain ⟨e, hei, tv, zv, rfl, ht, hz⟩ := paired_at hp2 e2
      have heg : EvGood rows κ p.1 p.2.length i e := hg.at hpm hei
      have hil : i < p.2.length := hlx ▸ hi
      have s4 : Same H3 (upd H3 Tq (.tup [.int (i : Nat), .ref tv])) := same_new hTq
      have t4 : (upd H3 Tq (.tup [.int (i : Nat), .ref tv])) Tq = some (.tup [.int (i : Nat), .ref tv]) := upd_same
      generalize upd H3 Tq (.tup [.int (i : Nat), .ref tv]) = H4 at s4 t4 ⊢
      have i4 := i3.same s4
      have st4 : Step [kd, fo] H2 H4 := st.trans (.of s4)
      have hcn : cnt rows j i ≤ 40 := cnt_le hp (Nat.le_of_lt hil) hg.size
      have hc1 : cnt rows j (i + 1) = cnt rows j i + 1 := rfl
      have htv : SqT K H4 tv [.str e.w, oV e.o, zv] := sqt_step st4 ht
      refine ⟨Tq, _, rfl, SqT.of t4, rfl, _, _, rfl, _, _, rfl, ⟨tv, _, rfl, htv, rfl, _, _, rfl, _, _, rfl, _, _, rfl, rfl, rfl, ?_⟩⟩
      refine st_ifJ (fun σ' H5 => σ' = [some (.ref l), v1, v2, some (.str p.1), some (.ref a), some (.int (i : Nat)), some (.str e.w), some (oV e.o), some zv] ∧ Step [kd, fo] H2 H5 ∧ LInv K H5 C l dx ra kd fo fs kvs rows od κ (Pd rows j (i + 1)) (cnt rows j (i + 1)) (cnt rows j i)) (fun R hR => ?_) ?_
      · refine ⟨_, rfl, _, rfl, by show 2 ≤ sizeLine; decide, fun q hq => ?_⟩
        have s5 : Same H4 (upd H4 q (.tup [.str "", .str "thread"])) := same_new hq
        have t5 : (upd H4 q (.tup [.str "", .str "thread"])) q = some (.tup [.str "", .str "thread"]) := upd_same
        generalize upd H4 q (.tup [.str "", .str "thread"]) = H5 at s5 t5 ⊢
        have i5 := i4.same s5
        have st5 : Step [kd, fo] H2 H5 := st4.trans (.of s5)
        refine ⟨q, (["", "thread"] : List Str).map V.str, rfl, .inr (SqT.of t5), rfl, rfl, _, rfl, ?_⟩
        rw [if_pos rfl]
        refine ifB (c := objK (kdOf e.w)) (by rw [in_strs, objK_in, Bool.not_not]) ?_
        cases hob : objK (kdOf e.w) with
        | true =>
          refine iteT ?_
          have hnl : kdOf e.w ≠ .lone := fun z => by rw [z] at hob; cases hob
          obtain ⟨x, hx, _⟩ := kd_ok heg.ok hnl
          have hκ := heg.kind hnl x hx
          obtain ⟨kk, k1, k2⟩ := i5.kds
          obtain ⟨ff, f1, f2⟩ := i5.fks
          refine ⟨_, rfl, _, rfl, _, rfl, l, C, dx, fs, _, rfl, i5.ins, TL.cl, TL.n_kinds, hf2, _, rfl, kd, _, rfl, by rw [hx]; exact DPut.k (k := Sum.inr x) k1 (Nat.lt_of_le_of_lt (Nat.le_trans k2.len (show cnt rows j i ≤ 1000 by omega)) (by decide)), ?_⟩
          have sp : Step [kd] H5 (upd H5 kd (.dK (putK kk (Sum.inr x) (.str (kdOf e.w).str)))) := .put k1 rfl
          refine hR _ _ ⟨rfl, st5.trans (sp.wide (by simp)), ⟨sp.oth l _ (by simpa using nlk) rfl i5.ins, sp.oth ra _ (by simpa using ne1) rfl i5.rws, trw_step sp i5.prs, ⟨_, upd_same, ?_⟩, ⟨ff, sp.oth fo _ (by simpa using ne.symm) rfl f1, f2⟩⟩⟩
          rw [← hκ]
          refine k2.put fun y => ?_
          rw [Pd.next hp hei y, hx, hob]
          simp [eq_comm]
        | false =>
          refine iteF ?_
          refine hR _ _ ⟨rfl, st5, i5.iff (fun y => ?_) (by omega) (Nat.le_refl _)⟩
          rw [Pd.next hp hei y, hob]
          simp
      · rintro σ' H5 ⟨rfl, st5, i5⟩
        refine st_ifl ?_
        refine ⟨_, rfl, rfl, _, rfl, ?_⟩
        by_cases hfk : e.w = "fork"
        · refine ifT (by rw [hfk]) ?_
          obtain ⟨x, hx, _⟩ := kd_ok heg.ok (by rw [hfk]; intro z; cases z)
          refine ⟨_, rfl, _, rfl, by show 2 ≤ sizeLine; decide, fun q hq => ?_⟩
          have s6 := same_new (o := .tup [.str p.1, .int (i : Nat)]) hq
          generalize upd H5 q (.tup [.str p.1, .int (i : Nat)]) = H6 at s6 ⊢
          have i6 := i5.same s6
          obtain ⟨kk, k1, k2⟩ := i6.kds
          obtain ⟨ff, f1, f2⟩ := i6.fks
          refine ⟨_, rfl, l, C, dx, fs, _, rfl, i6.ins, TL.cl, TL.n_forks, hf3, _, rfl, fo, _, rfl, by rw [hx]; exact DPut.k (k := Sum.inr x) f1 (Nat.lt_of_le_of_lt (Nat.le_trans f2 (show cnt rows j i ≤ 1000 by omega)) (by decide)), ?_⟩
          have sp : Step [fo] H6 (upd H6 fo (.dK (putK ff (Sum.inr x) (.ref q)))) := .put f1 rfl
          refine ⟨⟨_, _, _, _, rfl⟩, hil, (st5.trans (.of s6)).trans (sp.wide (by simp)), ⟨sp.oth l _ (by simpa using nlf) rfl i6.ins, sp.oth ra _ (by simpa using ne2) rfl i6.rws, trw_step sp i6.prs, ⟨kk, sp.oth kd _ (by simpa using ne) rfl k1, k2⟩, ⟨_, upd_same, Nat.le_trans (length_putK _ _ _) (by omega)⟩⟩⟩
        · refine ifF (fun z => hfk (V.str.inj z)) ?_
          exact ⟨⟨_, _, _, _, rfl⟩, hil, st5, i5.iff (fun _ => Iff.rfl) (Nat.le_refl _) (by omega)⟩
    · rintro σ H' ⟨⟨w5, w6, w7, w8, rfl⟩, _, st, i3⟩
      rw [hlx] at i3
      refine ⟨⟨_, _, _, _, _, _, rfl⟩, st2.trans st, i3.iff (fun x => Pd.row hp x) (by rw [cnt_row hp]; exact Nat.le_refl _) (by rw [cnt_row hp]; exact Nat.le_refl _)⟩
  · rintro σ H' ⟨⟨w3, w4, w5, w6, w7, w8, rfl⟩, st, i1⟩
    refine ⟨i1.rws, ?_⟩
    obtain ⟨kk, k1, k2⟩ := i1.kds
    subst eH
    refine k _ kk (.unlock r1 rfl rfl st) (by rw [upd_ne ne1.symm]; exact k1) (k2.iff (fun x => ?_) ?_) _ _ _ _ _ _
    · rw [hlen]
      exact (Pd.all x).symm
    · unfold cnt
      rw [hlen, List.take_of_length_le (Nat.le_refl _)]
      exact hg.size
end Lg

namespace Lg
open PySem L2 TL
def kNL : Kd → Bool
  | .lock => false
  | _ => true
def kCL : Kd → Bool
  | .cell => true
  | _ => false
theorem kNL_eq (k : Kd) : (!decide (V.str k.str = V.str "lock")) = kNL k := by
  cases k <;> decide +kernel
theorem kCL_eq (k : Kd) : decide (V.str k.str = V.str "cell") = kCL k := by
  cases k <;> decide +kernel
theorem filter_snoc {α : Type} (p : α → Bool) {l : List α} {i : Nat} {x : α} (h : l[i]? = some x) : (l.take (i + 1)).filter p = (l.take i).filter p ++ if p x = true then [x] else [] := by
  rw [List.take_add_one, h, List.filter_append]
  show _ ++ List.filter p [x] = _
  rw [List.filter_cons]
  rfl
/-- {name: first.get(name, 0) for name in sorted(self.kinds) if self.kinds[name] != 'lock'} -/
theorem rd_first {K : PySem.W.Frag} {H : Hp} {Q : VK} {C l dx kd fa : Addr} {fs : List (Str × V)} {kk fv : List (Key × V)} {ks : List Str} {κ : Str → Kd} {g : Str → Int} {v1 v3 v4 v5 v6 v7 v8 : Option V} (TL : LogC K C)
    (hl : H l = some (.ins C dx fs)) (hf : fs.lookup ("kinds" : Str) = some (V.ref kd)) (hkd : H kd = some (.dK kk)) (hks : KeysT kk ks) (hkl : ks.length < 64) (hκ : ∀ x ∈ ks, valV kk (Sum.inr x) = some (.str (κ x).str))
    (hfa : H fa = some (.dK fv)) (hg : ∀ x ∈ ks, (valV fv (Sum.inr x)).getD (.int 0) = .int (g x))
    (k : ∀ H' D ys, Same H H' → H D = none → ys.Perm ks → PyProof.Rows.sortedS ys = true → H' D = some (.dK ((ys.filter fun x => kNL (κ x)).map fun x => (Sum.inr x, .int (g x)))) → Q (.ref D) H') :
    tDc (iList K (tCB rSortD (tCons (tFld K (tVar 0) "kinds") tNil))) (gName 7) (tTest (tOp rNe (tDGet (tFld K (tVar 0) "kinds") (tVar 7)) (tC (.str "lock")))) (tVar 7) (tDGet2 (tVar 2) (tVar 7) (tC (.int 0))) [7]
      [some (.ref l), v1, some (.ref fa), v3, v4, v5, v6, v7, v8] H Q := by
  refine ⟨_, rfl, l, C, dx, fs, _, rfl, hl, TL.cl, TL.n_kinds, hf, kd, kk, ks, rfl, .inl hkd, hks.1, hkl, fun ys p hpm hsrt hp => ⟨p, rfl, ⟨_, SqL.of upd_same⟩, fun D hD => ?_⟩⟩
  have s1 : Same H (upd H p (.lst (ys.map V.str))) := same_new hp
  have hp1 : (upd H p (.lst (ys.map V.str))) p = some (.lst (ys.map V.str)) := upd_same
  generalize upd H p (.lst (ys.map V.str)) = H1 at s1 hp1 hD ⊢
  have hyn : ys.Nodup := hpm.nodup_iff.mpr hks.2
  have hyl : ys.length < 64 := by rw [hpm.length_eq]; exact hkl
  refine dc_it (walk_list (K := K) (a := p) (xs := ys.map V.str)) (fun i H' => Same H1 H' ∧ H' D = some (.dK (((ys.take i).filter fun x => kNL (κ x)).map fun x => (Sum.inr x, .int (g x))))) ⟨same_new hD, upd_same⟩ (fun i H' _ q => q.1.seq (SqL.of hp1)) ?_ ?_
  · rintro i x H2 H' hi ⟨s2, q1⟩ ⟨rfl, hx⟩
    rw [List.getElem?_map] at hx
    cases hki : ys[i]? with
    | none => rw [hki] at hx; cases hx
    | some t =>
      rw [hki] at hx
      cases hx
      have hmem : t ∈ ks := hpm.mem_iff.mp (List.mem_of_getElem? hki)
      have sH : Same H H' := s1.trans s2
      refine ⟨rfl, ?_⟩
      refine ⟨_, rfl, l, C, dx, fs, _, rfl, sH _ _ hl, TL.cl, TL.n_kinds, hf, _, rfl, kd, _, rfl, by rw [← hκ t hmem]; exact DGet.k (k := Sum.inr t) (sH _ _ hkd), rfl, _, rfl, ?_⟩
      refine ifB (kNL_eq _) ?_
      rw [filter_snoc _ hki]
      cases hnl : kNL (κ t) with
      | true =>
        refine iteT ?_
        refine ⟨_, rfl, _, rfl, fa, rfl, .inl ⟨fv, .inl (sH _ _ hfa)⟩, _, rfl, _, DGet.k (k := Sum.inr t) (sH _ _ hfa), _, Sum.inr t, rfl, q1, ?_, fun b u e => ?_, ?_⟩
        · rw [List.length_map]
          exact Nat.lt_of_le_of_lt (Nat.le_trans (List.length_filter_le _ _) (Nat.le_trans (List.length_take_le' _ _) (show ys.length ≤ 1000 by omega))) (by decide)
        · rw [upd_ne (fun z => by rw [z, hD] at e; cases e)]
          exact s2 _ _ e
        · rw [upd_same, hg t hmem, putK_new]
          · rw [if_pos rfl, List.map_append]
            rfl
          · cases q : valV (((ys.take i).filter fun x => kNL (κ x)).map fun x => ((Sum.inr x : Key), V.int (g x))) (Sum.inr t) with
            | none => rfl
            | some u =>
              have q3 := valV_in q
              rw [List.map_map] at q3
              obtain ⟨t', ht', e3⟩ := List.mem_map.mp q3
              have e4 : t' = t := Sum.inr.inj e3
              subst e4
              obtain ⟨j, hj⟩ := List.getElem?_of_mem (List.mem_filter.mp ht').1
              have hji : j < i := by
                have := (List.getElem?_eq_some_iff.mp hj).1
                rw [List.length_take] at this
                omega
              rw [List.getElem?_take_of_lt hji] at hj
              have := (List.getElem?_inj (List.getElem?_eq_some_iff.mp hj).1 hyn).mp (hj.trans hki.symm)
              omega
      | false =>
        refine iteF ⟨s2, ?_⟩
        rw [if_neg Bool.false_ne_true, List.append_nil]
        exact q1
  · rintro H2 ⟨s2, q1⟩
    have e : ys.take (ys.map V.str).length = ys := List.take_of_length_le (by rw [List.length_map]; exact Nat.le_refl _)
    rw [e] at q1
    exact k H2 D ys (s1.trans s2) (s1.free hD) hpm hsrt q1
/-- tuple([name for name in self.first if self.kinds[name] == 'cell']) -/
theorem rd_cells {K : PySem.W.Frag} {H : Hp} {Q : VK} {C l dx kd fi : Addr} {fs : List (Str × V)} {kk : List (Key × V)} {zs : List Str} {κ : Str → Kd} {g : Str → Int} {v1 v2 v3 v4 v5 v6 v7 v8 : Option V} (TL : LogC K C)
    (hl : H l = some (.ins C dx fs)) (hf : fs.lookup ("kinds" : Str) = some (V.ref kd)) (hf2 : fs.lookup ("first" : Str) = some (V.ref fi)) (hkd : H kd = some (.dK kk)) (hne : kd ≠ fi) (hzl : zs.length < 64) (hκ : ∀ x ∈ zs, valV kk (Sum.inr x) = some (.str (κ x).str))
    (hfi : H fi = some (.dK (zs.map fun x => (Sum.inr x, .int (g x)))))
    (k : ∀ H' q, Step [] H H' → H' q = some (.tup ((zs.filter fun x => kCL (κ x)).map V.str)) → Q (.ref q) H') :
    tCB (rTupOf K) (tCons (tLockE (tLc (iKeys (tFld K (tVar 0) "first")) (gName 7) (tTest (tOp rEq (tDGet (tFld K (tVar 0) "kinds") (tVar 7)) (tC (.str "cell")))) (tVar 7) [7])) tNil)
      [some (.ref l), v1, v2, v3, v4, v5, v6, v7, v8] H Q := by
  have nel : l ≠ fi := ne_kind hl hfi (by intro z; cases z)
  refine ⟨fi, _, hfi, trivial, fun od => ?_⟩
  have l1 : (upd H fi (.frz od (.dK (zs.map fun x => (Sum.inr x, .int (g x)))))) l = some (.ins C dx fs) := by rw [upd_ne nel]; exact hl
  have k1 : (upd H fi (.frz od (.dK (zs.map fun x => (Sum.inr x, .int (g x)))))) kd = some (.dK kk) := by rw [upd_ne hne]; exact hkd
  have f1 : (upd H fi (.frz od (.dK (zs.map fun x => (Sum.inr x, .int (g x)))))) fi = some (.frz od (.dK (zs.map fun x => (Sum.inr x, .int (g x))))) := upd_same
  refine ⟨_, rfl, l, C, dx, fs, _, rfl, l1, TL.cl, TL.n_first, hf2, fi, od, rfl, .inl ⟨_, f1, fun D hD => ?_⟩⟩
  have nDf : D ≠ fi := ne_none f1 hD
  refine lc_it walk_keys (AccP _ D fun i acc _ => acc = ((zs.take i).filter fun x => kCL (κ x)).map V.str) (acc0 hD rfl) (fun i H' _ q => q.1 _ _ f1) ?_ ?_
  · rintro i x H2 H' hi ⟨s2, _, hD2, rfl⟩ ⟨rfl, key, v, hkv, rfl⟩
    rw [List.getElem?_map] at hkv
    cases hki : zs[i]? with
    | none => rw [hki] at hkv; cases hkv
    | some t =>
      rw [hki] at hkv
      cases hkv
      have hmem : t ∈ zs := List.mem_of_getElem? hki
      refine ⟨rfl, ?_⟩
      refine ⟨_, rfl, l, C, dx, fs, _, rfl, s2 _ _ l1, TL.cl, TL.n_kinds, hf, _, rfl, kd, _, rfl, by rw [← hκ t hmem]; exact DGet.k (k := Sum.inr t) (s2 _ _ k1), rfl, _, rfl, ?_⟩
      refine ifB (kCL_eq _) ?_
      cases hnl : kCL (κ t) with
      | true =>
        refine iteT ?_
        refine ⟨_, rfl, acc_put hD s2 hD2 ?_ ?_⟩
        · rw [List.length_map]
          exact Nat.lt_of_le_of_lt (Nat.le_trans (List.length_filter_le _ _) (Nat.le_trans (List.length_take_le' _ _) (show zs.length ≤ 1000 by omega))) (by decide)
        · rw [filter_snoc _ hki, if_pos hnl, List.map_append]
          rfl
      | false =>
        refine iteF ⟨s2, _, hD2, ?_⟩
        dsimp only
        rw [filter_snoc _ hki, if_neg (by rw [hnl]; exact Bool.false_ne_true), List.append_nil]
  · rintro H2 ⟨s2, _, hD2, rfl⟩
    refine ⟨s2 _ _ f1, ?_⟩
    rw [List.length_map, List.take_of_length_le (Nat.le_refl _)] at hD2
    have st : Step [] H (upd H2 fi (.dK (zs.map fun x => (Sum.inr x, .int (g x))))) := .unlock hfi rfl rfl (.of s2)
    have hD3 : (upd H2 fi (.dK (zs.map fun x => (Sum.inr x, .int (g x))))) D = some (.lst ((zs.filter fun x => kCL (κ x)).map V.str)) := by
      rw [upd_ne nDf]
      exact hD2
    exact ⟨D, _, rfl, .inl ⟨SqL.of hD3, fun q hq => k _ q (st.trans (.new hq)) upd_same⟩⟩
/-- {thread: f(row) for thread, row in self.rows.items()} -/
theorem rd_each {K : PySem.W.Frag} {H : Hp} {Q : VK} {C l dx ra : Addr} {fs : List (Str × V)} {rows : Rows} {sp : Sp} {v1 v2 v3 v4 v5 v6 v7 v8 : Option V} (TL : LogC K C)
    (hl : H l = some (.ins C dx fs)) (hf : fs.lookup ("rows" : Str) = some (V.ref ra)) (hr : TRowsAt K H ra rows) (hn : rows.length ≤ 50)
    (hsp : ∀ (p : Str × List Ev) (a : Addr) (xs : List V) (H1 : Hp) (Q1 : VK), p ∈ rows → SqT K H1 a xs → Paired (EvAt K H1) xs p.2 → (∀ H' D, Same H1 H' → Q1 (.ref D) H') → sp [.ref a] H1 Q1 E0)
    (k : ∀ H' D, Step [] H H' → H D = none → (∃ kv, H' D = some (.dK kv)) → Q (.ref D) H') :
    tLockE (tDc (iItems (tFld K (tVar 0) "rows")) (gTup K 2 (gCons (gName 3) (gCons (gName 4) gNil))) tYes (tVar 3) (tCall sp [] E0 (tCons (tVar 4) tNil)) [3, 4])
      [some (.ref l), v1, v2, v3, v4, v5, v6, v7, v8] H Q := by
  obtain ⟨kvs, r1, r2⟩ := hr
  have nel : l ≠ ra := ne_kind hl r1 (by intro z; cases z)
  have hlen : kvs.length = rows.length := Paired.length r2
  refine ⟨ra, _, r1, trivial, fun od => ?_⟩
  have s0 : Step [ra] H (upd H ra (.frz od (.dK kvs))) := .put r1 rfl
  have l1 : (upd H ra (.frz od (.dK kvs))) l = some (.ins C dx fs) := by rw [upd_ne nel]; exact hl
  have f1 : (upd H ra (.frz od (.dK kvs))) ra = some (.frz od (.dK kvs)) := upd_same
  have p1 := trw_step s0 r2
  refine ⟨_, rfl, l, C, dx, fs, _, rfl, l1, TL.cl, TL.n_rows, hf, ra, od, kvs, rfl, f1, fun D hD => ?_⟩
  have nDr : D ≠ ra := ne_none f1 hD
  have hD0 : H D = none := by rw [upd_ne nDr] at hD; exact hD
  refine dc_it (walk_items (d := ra) (o := od) (kvs := kvs)) (fun i H' => Same (upd H ra (.frz od (.dK kvs))) H' ∧ ∃ kv, H' D = some (.dK kv) ∧ kv.length ≤ i) ⟨same_new hD, [], upd_same, Nat.zero_le _⟩ (fun i H' _ q => q.1 _ _ f1) ?_ ?_
  · rintro j x H1 H2 hj ⟨s1, kv0, q1, q2⟩ ⟨Tp, y1, y2, rfl, hTp, rfl, e1, e2⟩
    obtain ⟨kv, hkv⟩ : ∃ kv, kvs[j]? = some kv := ⟨kvs[j], by simp [hj]⟩
    dsimp only at e1 e2
    rw [hkv] at e1 e2
    obtain ⟨p, hp, hk1, a, xs, e3, ha, hpp⟩ := paired_at p1 hkv
    have hkey : kV kv.1 = .str p.1 := by rw [hk1]; rfl
    have hy1 : y1 = .str p.1 := (Option.some.inj (show some (kV kv.1) = some y1 from e1)).symm.trans hkey
    have hy2 : y2 = .ref a := (Option.some.inj (show some kv.2 = some y2 from e2)).symm.trans e3
    subst hy1 hy2
    refine ⟨Tp, _, rfl, SqT.of upd_same, rfl, _, _, rfl, _, _, rfl, rfl, ?_⟩
    have s2 : Same H1 (upd H1 Tp (.tup [.str p.1, .ref a])) := same_new hTp
    generalize upd H1 Tp (.tup [.str p.1, .ref a]) = H2 at s2 ⊢
    refine ⟨rfl, yes_then ?_⟩
    refine ⟨_, rfl, _, rfl, ?_⟩
    refine hsp p a xs H2 _ (List.mem_of_getElem? hp) (sqt_same (s1.trans s2) ha) (evs_same (s1.trans s2) hpp) fun H3 D3 s3 => ?_
    refine ⟨kv0, Sum.inr p.1, rfl, s3 _ _ (s2 _ _ q1), Nat.lt_of_le_of_lt (show kv0.length ≤ 1000 by omega) (by decide), fun b u e => ?_, _, upd_same, Nat.le_trans (length_putK _ _ _) (by omega)⟩
    rw [upd_ne (fun z => by rw [z, hD] at e; cases e)]
    exact s3 _ _ (s2 _ _ (s1 _ _ e))
  · rintro H2 ⟨s2, kv, q1, q2⟩
    exact ⟨s2 _ _ f1, k _ D (.unlock r1 rfl rfl (.of s2)) hD0 ⟨kv, by rw [upd_ne nDr]; exact q1⟩⟩
end Lg

namespace Lg
open PySem L2 TL
/-! ### the rows in another order -/
theorem lookup_none {rows : Rows} {t : Str} (h : t ∉ rows.map (·.1)) : rows.lookup t = none := by
  induction rows with
  | nil => rfl
  | cons q r ih =>
    obtain ⟨y, es⟩ := q
    have h1 : ¬ t = y := fun z => h (by simp [z])
    have ne : (t == y) = false := beq_eq_false_iff_ne.mpr h1
    rw [List.lookup_cons, ne]
    exact ih fun z => h (List.mem_cons_of_mem _ z)
theorem lookup_perm {rows rows' : Rows} (hp : rows'.Perm rows) (hn : (rows.map (·.1)).Nodup) (t : Str) : rows'.lookup t = rows.lookup t := by
  have hn' : (rows'.map (·.1)).Nodup := (hp.map _).nodup_iff.mpr hn
  by_cases ht : t ∈ rows.map (·.1)
  · obtain ⟨p, hpm, rfl⟩ := List.mem_map.mp ht
    rw [lookup_of hn hpm, lookup_of hn' (hp.mem_iff.mpr hpm)]
  · rw [lookup_none ht, lookup_none fun z => ht ((hp.map _).mem_iff.mp z)]
theorem EvGood.perm {rows rows' : Rows} {κ : Str → Kd} {t : Str} {len i : Nat} {e : Ev} (h : EvGood rows κ t len i e) (hl : ∀ t, rows'.lookup t = rows.lookup t) : EvGood rows' κ t len i e :=
  ⟨h.ok, h.kind, fun h1 x h2 => let ⟨a, es, b, c⟩ := h.thr h1 x h2; ⟨a, es, (hl x).trans b, c⟩, h.last⟩
theorem Good.perm {rows rows' : Rows} {κ : Str → Kd} (g : Good rows κ) (hp : rows'.Perm rows) : Good rows' κ := by
  have hl := lookup_perm hp g.nd
  refine ⟨fun t es h => ?_, (hp.map _).nodup_iff.mpr g.nd, fun t ht => g.kt t ((hp.map _).mem_iff.mp ht), ?_, by rw [hp.length_eq]; exact g.many, ?_⟩
  · have r := g.row t es ((hl t).symm.trans h)
    exact ⟨r.nm, fun i e he => (r.ev i e he).perm hl, r.held⟩
  · exact (((hp.map _).flatten).flatMap_right _).nodup_iff.mpr g.forks
  · rw [((hp.map _).flatten).length_eq]
    exact g.size
theorem rowOf_perm {rows : Rows} (hn : (rows.map (·.1)).Nodup) {ns : List Str} (hp : ns.Perm (rows.map (·.1))) : (ns.map fun t => (t, rowOf rows t)).Perm rows := by
  have e : (rows.map (·.1)).map (fun t => (t, rowOf rows t)) = rows := by
    rw [List.map_map]
    have : rows.map ((fun t => (t, rowOf rows t)) ∘ fun x => x.1) = rows.map id := List.map_congr_left fun p hpm => by
      show (p.1, rowOf rows p.1) = p
      rw [rowOf, lookup_of hn hpm]
      rfl
    rw [this, List.map_id]
  have := hp.map fun t => (t, rowOf rows t)
  rwa [e] at this
theorem objOf_perm {rows rows' : Rows} (hp : rows'.Perm rows) (x : Str) : objOf rows' x ↔ objOf rows x := by
  constructor
  · rintro ⟨p, h1, h2⟩
    exact ⟨p, hp.mem_iff.mp h1, h2⟩
  · rintro ⟨p, h1, h2⟩
    exact ⟨p, hp.mem_iff.mpr h1, h2⟩
/-- the value of x at the beginning, 0 where nothing is told -/
def fstOf (fv : List (Key × V)) (x : Str) : Int := match valV fv (Sum.inr x) with
  | some (.int i) => i
  | _ => 0
/-! ### a log -/
structure LogAt (K : PySem.W.Frag) (H : Hp) (C l : Addr) (rows : Rows) (κ : Str → Kd) (g : Str → Int) : Prop where
  ex : ∃ dx ra na kd fo fi ce he rs : Addr, H l = some (.ins C dx [("rows", .ref ra), ("names", .ref na), ("kinds", .ref kd), ("forks", .ref fo), ("first", .ref fi), ("cells", .ref ce), ("held", .ref he), ("raised", .ref rs), ("graph", .non)]) ∧
    TRowsAt K H ra rows ∧ SqT K H na (rows.map fun p => .str p.1) ∧ (∃ kk, H kd = some (.dK kk) ∧ KInv kk κ (objOf rows) 40) ∧
    ∃ zs : List Str, H fi = some (.dK (zs.map fun x => (Sum.inr x, .int (g x)))) ∧ PyProof.Rows.sortedS zs = true ∧ zs.Nodup ∧ ∀ x, x ∈ zs ↔ objOf rows x ∧ kNL (κ x) = true
  good : Good rows κ
  srt : PyProof.Rows.sortedS (rows.map (·.1)) = true
/-- the same, with the places that it rests on -/
structure LogAtO (K : PySem.W.Frag) (H : Hp) (C l : Addr) (rows : Rows) (κ : Str → Kd) (g : Str → Int) (own : List Addr) : Prop where
  ex : ∃ dx ra na kd fo fi ce he rs : Addr, own = [l, ra, kd, fi] ∧ H l = some (.ins C dx [("rows", .ref ra), ("names", .ref na), ("kinds", .ref kd), ("forks", .ref fo), ("first", .ref fi), ("cells", .ref ce), ("held", .ref he), ("raised", .ref rs), ("graph", .non)]) ∧
    TRowsAt K H ra rows ∧ SqT K H na (rows.map fun p => .str p.1) ∧ (∃ kk, H kd = some (.dK kk) ∧ KInv kk κ (objOf rows) 40) ∧
    ∃ zs : List Str, H fi = some (.dK (zs.map fun x => (Sum.inr x, .int (g x)))) ∧ PyProof.Rows.sortedS zs = true ∧ zs.Nodup ∧ ∀ x, x ∈ zs ↔ objOf rows x ∧ kNL (κ x) = true
  good : Good rows κ
  srt : PyProof.Rows.sortedS (rows.map (·.1)) = true
theorem LogAtO.log {K : PySem.W.Frag} {H : Hp} {C l : Addr} {rows : Rows} {κ : Str → Kd} {g : Str → Int} {own : List Addr} (h : LogAtO K H C l rows κ g own) : LogAt K H C l rows κ g :=
  let ⟨dx, ra, na, kd, fo, fi, ce, he, rs, _, r⟩ := h.ex
  ⟨⟨dx, ra, na, kd, fo, fi, ce, he, rs, r⟩, h.good, h.srt⟩
theorem LogAtO.step {K : PySem.W.Frag} {nt : Bool} {ls : List Addr} {H H' : Hp} {C l : Addr} {rows : Rows} {κ : Str → Kd} {g : Str → Int} {own : List Addr} (h : LogAtO K H C l rows κ g own) (s : StepB nt ls H H') (hl : ∀ b ∈ ls, b ∉ own) : LogAtO K H' C l rows κ g own := by
  obtain ⟨dx, ra, na, kd, fo, fi, ce, he, rs, eo, h1, h2, h3, ⟨kk, h4, h5⟩, zs, h6, h7⟩ := h.ex
  have n : ∀ b, b ∈ own → b ∉ ls := fun b hb z => hl b z hb
  refine ⟨⟨dx, ra, na, kd, fo, fi, ce, he, rs, eo, s.oth _ _ (n l (by simp [eo])) rfl h1, h2.step s (n ra (by simp [eo])), sqt_step s h3, ⟨kk, s.oth _ _ (n kd (by simp [eo])) rfl h4, h5⟩, zs, s.oth _ _ (n fi (by simp [eo])) rfl h6, h7⟩, h.good, h.srt⟩
/-- a value at the beginning for each of these -/
def FirstFit (fv : List (Key × V)) (ks : List Str) (rows : Rows) (κ : Str → Kd) : Prop := fv.map (·.1) = ks.map Sum.inr ∧ ks.length ≤ 100 ∧
  ∀ x ∈ ks, objOf rows x ∧ ∃ i, valV fv (Sum.inr x) = some (.int i) ∧ (κ x = .cell ∨ (κ x = .counter ∧ 0 ≤ i))
theorem obj_name {rows : Rows} {κ : Str → Kd} (g : Good rows κ) {x : Str} (h : objOf rows x) : nameOk x = true := by
  obtain ⟨p, hp, e, he, h3, _⟩ := h
  obtain ⟨i, hi⟩ := List.getElem?_of_mem he
  exact ok_shape (g.at hp hi).ok x h3
theorem Good.oks {rows : Rows} {κ : Str → Kd} (g : Good rows κ) {p : Str × List Ev} (hp : p ∈ rows) : ∀ e ∈ p.2, e.ok := fun e he => by
  obtain ⟨i, hi⟩ := List.getElem?_of_mem he
  exact (g.at hp hi).ok
theorem Good.rlen {rows : Rows} {κ : Str → Kd} (g : Good rows κ) {p : Str × List Ev} (hp : p ∈ rows) : p.2.length ≤ 40 := by
  obtain ⟨j, hj⟩ := List.getElem?_of_mem hp
  have := cnt_le hj (Nat.le_refl _) g.size
  unfold cnt at this
  omega
theorem step_free {l : List Addr} {H H' : Hp} {b : Addr} (s : Step l H H') (hb : b ∉ l) (h : H' b = none) : H b = none := by
  cases q : H b with
  | none => rfl
  | some u =>
    by_cases hu : tblO u = true
    · have q2 : ∃ ps, u = .tbl ps := by
        cases u <;> first | exact ⟨_, rfl⟩ | (cases hu)
      obtain ⟨ps, rfl⟩ := q2
      rw [s.tab rfl b ps q] at h
      cases h
    · rw [s.oth b u hb (by simpa using hu) q] at h
      cases h
theorem not_code {H : Hp} {b : Addr} {u : HO} (h : H b = some u) (hu : ∀ F, u ≠ .ext F) : ∀ q, H b ≠ some (LamX.CodeO b q) := fun q z => by
  rw [h] at z
  exact hu _ (Option.some.inj z)
section
variable {P : Program} {w : World} {K : PySem.W.Frag} {mg : Str → Option Value} {base : Heap} {f : Addr} {fd : FuncData} {C CL : Addr} {TT : List (Addr × Str)}
abbrev s_Log_init : Stmt := inClass (top 23) 0
theorem sc_Log_init : FnScope ["self", "rows", "first", "thread", "row", "at", "word", "name", "value"] ["self", "rows", "first"] (defScope s_Log_init) := ⟨rfl, rfl, rfl, by decide +kernel, rfl, by decide +kernel, by decide +kernel⟩
def spLI (K : PySem.W.Frag) (CL : Addr) (TT : List (Addr × Str)) : Sp := fun vs H Q _ => ∃ (l dx ra fa : Addr) (rows : Rows) (κ : Str → Kd) (fv : List (Key × V)) (ks : List Str), vs = [.ref l, .ref ra, .ref fa] ∧ H l = some (.ins CL dx []) ∧ RowsAt K H ra rows ∧ Good rows κ ∧
  H fa = some (.dK fv) ∧ FirstFit fv ks rows κ ∧ LamX.Tabs TT H ∧ ∀ H' srows own, StepN [l] H H' → LamX.Tabs TT H' → srows.Perm rows → LogAtO K H' CL l srows κ (fstOf fv) own → (∀ b u, b ≠ l → H b = some u → tblO u = false → b ∉ own) → Q .non H'
theorem ok_log_init (F : FunD K "__init__" "Log.__init__" s_Log_init f fd) (T : Gb K mg) (TC : ChkC K C) (TL : LogC K CL) (kCk : K0 P w K mg base 2 C "Checker" ["self", "rows"] (spCI K C)) (mCk : M0 P w K mg base 5 C "check" ["self"] (spCk K C TT))
    (cKind : C0 P w K mg base 1 "kind_of" ["word"] spKind) (mCF : M0 P w K mg base 2 CL "check_first" ["self", "first"] (spCF K CL TT)) (cHA : C0 P w K mg base 1 "held_after" ["row"] (spHA K)) (cRA : C0 P w K mg base 1 "raised_after" ["row"] (spRA K)) :
    FnOk P w K mg base CX0 6 f fd ["self", "rows", "first"] (spLI K CL TT) := by
  obtain ⟨_, _, kCk⟩ := kCk
  obtain ⟨_, _, mCk⟩ := mCk
  obtain ⟨_, _, cKind⟩ := cKind
  obtain ⟨_, _, mCF⟩ := mCF
  obtain ⟨_, _, cHA⟩ := cHA
  obtain ⟨_, _, cRA⟩ := cRA
  refine F.ok sc_Log_init (fun vs H Q E h => ?_) (fun cdv A outer s H vs Q E hr h => ?_)
  · obtain ⟨l, dx, ra, fa, rows, κ, fv, ks, rfl, _⟩ := h
    rfl
  · obtain ⟨l, dx, ra, fa, rows, κ, fv, ks, rfl, hl, hrw, hg, hfa, ⟨hfk, hfl, hfo⟩, hT, k⟩ := h
    have hu := hu_of hr
    refine ⟨_, pss_cons (ps_expr (pe_meth0 (pe_make kCk.M kCk.ok (hr.mono (by decide)) (by rfl) kCk.mg kCk.bd .nil pass0 (pa_cons (pv 1) pa_nil)) TC.cl mCk.me mCk.ok (hr.mono (by decide)) mCk.bd .nil pass0))
    (pss_cons (ps_set (i := 2) sc_Log_init.nd rfl (Or.inr rfl) (pe_ifExp (pt_cmpR op_isN (pv 2) pe_non (nomark _)) pe_dnewK (pv 2)))
    (pss_cons (ps_fld (pv 0) (pe_dc (own := [("thread", 3)]) rfl sc_Log_init.nd (pi_list (pe_callB (call_sortedD rfl) (by rfl) T.m_sorted (by decide +kernel) (pa_cons (pv 1) pa_nil))) (blkOk_by (own := [("thread", 3)]) (N := ["self", "rows", "first", "thread", "row", "at", "word", "name", "value"]) (sc := defScope s_Log_init) (by decide +kernel)) (fun _ _ _ _ _ => (pg_name (i := 3) sc_Log_init.nd rfl (Or.inl rfl))) (fun _ _ _ _ _ => pts_nil) (fun _ _ _ _ _ => (pv 3)) (fun _ _ _ _ _ => (pe_callTy (Kx.tupleK (K := K)) (by rfl) T.m_tuple (by decide +kernel) (pa_cons (pe_dget hu (pv 1) (pv 3) (fun _ _ => rfl)) pa_nil)))) rfl)
    (pss_cons (ps_fld (pv 0) (pe_callTy (TpD.call_tuple_dK rfl) (by rfl) T.m_tuple (by decide +kernel) (pa_cons (pe_fld (pv 0) rfl) pa_nil)) rfl)
    (pss_cons (ps_fld (pv 0) pe_dnewK rfl)
    (pss_cons (ps_fld (pv 0) pe_dnewK rfl)
    (pss_cons (ps_lock (ps_for PassesOwn.never rfl (pi_items (pe_fld (pv 0) rfl)) (pg_tup rfl (pgs_cons (pg_name (i := 3) sc_Log_init.nd rfl (Or.inl rfl)) (pgs_cons (pg_name (i := 4) sc_Log_init.nd rfl (Or.inl rfl)) pgs_nil)))
      (pss_one (ps_for PassesOwn.never rfl (EnT.pi_enumA (by rfl) T.m_enumerate (pa_cons (pv 4) pa_nil)) (pg_tup rfl (pgs_cons (pg_name (i := 5) sc_Log_init.nd rfl (Or.inl rfl)) (pgs_cons (pg_tup rfl (pgs_cons (pg_name (i := 6) sc_Log_init.nd rfl (Or.inl rfl)) (pgs_cons (pg_name (i := 7) sc_Log_init.nd rfl (Or.inl rfl)) (pgs_cons (pg_name (i := 8) sc_Log_init.nd rfl (Or.inl rfl)) pgs_nil)))) pgs_nil)))
      (pss_cons (ps_if (pt_cmpR op_notIn_seq (pe_call cKind.ok (hr.mono (by decide)) (by rfl) cKind.mg cKind.kp cKind.bd .nil pass0 (pa_cons (pv 6) pa_nil)) (pe_tup (pa_cons pe_str (pa_cons pe_str pa_nil))) rfl) (pss_one (ps_dput hu (pe_fld (pv 0) rfl) (pv 7) (pe_call cKind.ok (hr.mono (by decide)) (by rfl) cKind.mg cKind.kp cKind.bd .nil pass0 (pa_cons (pv 6) pa_nil)) rfl)) (pss_nil))
    (pss_one (ps_if (pt_cmpR op_eq (pv 6) pe_str (nomark _)) (pss_one (ps_dput hu (pe_fld (pv 0) rfl) (pv 7) (pe_tup (pa_cons (pv 3) (pa_cons (pv 5) pa_nil))) rfl)) (pss_nil))))))))
    (pss_cons (ps_expr (pe_meth (pv 0) TL.cl mCF.me mCF.ok (hr.mono (by decide)) mCF.bd .nil pass0 (pa_cons (pv 2) pa_nil)))
    (pss_cons (ps_fld (pv 0) (pe_dc (own := [("name", 7)]) rfl sc_Log_init.nd (pi_list (pe_callB (call_sortedD rfl) (by rfl) T.m_sorted (by decide +kernel) (pa_cons (pe_fld (pv 0) rfl) pa_nil))) (blkOk_by (own := [("name", 7)]) (N := ["self", "rows", "first", "thread", "row", "at", "word", "name", "value"]) (sc := defScope s_Log_init) (by decide +kernel)) (fun _ _ _ _ _ => (pg_name (i := 7) sc_Log_init.nd rfl (Or.inl rfl))) (fun _ _ _ _ _ => (pts_one (pt_cmpR op_ne (pe_dget hu (Kx.fldK (K := K) (pv 0) rfl) (pv 7) (fun _ _ => rfl)) pe_str (nomark _)))) (fun _ _ _ _ _ => (pv 7)) (fun _ _ _ _ _ => (pe_dget2 hu (pv 2) (pv 7) pe_int (by exact ⟨rfl, rfl, rfl, rfl⟩)))) rfl)
    (pss_cons (ps_fld (pv 0) (pe_callTy call_tuple_of (by rfl) T.m_tuple (by decide +kernel) (pa_cons (pe_lock (pe_lc (own := [("name", 7)]) rfl sc_Log_init.nd (pi_keys (pe_fld (pv 0) rfl)) (blkOk_by (own := [("name", 7)]) (N := ["self", "rows", "first", "thread", "row", "at", "word", "name", "value"]) (sc := defScope s_Log_init) (by decide +kernel)) (fun _ _ _ _ _ => (pg_name (i := 7) sc_Log_init.nd rfl (Or.inl rfl))) (fun _ _ _ _ _ => (pts_one (pt_cmpR op_eq (pe_dget hu (Kx.fldK (K := K) (pv 0) rfl) (pv 7) (fun _ _ => rfl)) pe_str (nomark _)))) (fun _ _ _ _ _ => (pv 7)))) pa_nil)) rfl)
    (pss_cons (ps_fld (pv 0) (pe_lock (pe_dc (own := [("thread", 3), ("row", 4)]) rfl sc_Log_init.nd (pi_items (pe_fld (pv 0) rfl)) (blkOk_by (own := [("thread", 3), ("row", 4)]) (N := ["self", "rows", "first", "thread", "row", "at", "word", "name", "value"]) (sc := defScope s_Log_init) (by decide +kernel)) (fun _ _ _ _ _ => (Kx.tupK (K := K) (n := 2) rfl (pgs_cons (pg_name (i := 3) sc_Log_init.nd rfl (Or.inl rfl)) (pgs_cons (pg_name (i := 4) sc_Log_init.nd rfl (Or.inl rfl)) pgs_nil)))) (fun _ _ _ _ _ => pts_nil) (fun _ _ _ _ _ => (pv 3)) (fun _ _ _ _ _ => (pe_call cHA.ok (hr.mono (by decide)) (by rfl) cHA.mg cHA.kp cHA.bd .nil pass0 (pa_cons (pv 4) pa_nil))))) rfl)
    (pss_cons (ps_fld (pv 0) (pe_lock (pe_dc (own := [("thread", 3), ("row", 4)]) rfl sc_Log_init.nd (pi_items (pe_fld (pv 0) rfl)) (blkOk_by (own := [("thread", 3), ("row", 4)]) (N := ["self", "rows", "first", "thread", "row", "at", "word", "name", "value"]) (sc := defScope s_Log_init) (by decide +kernel)) (fun _ _ _ _ _ => (Kx.tupK (K := K) (n := 2) rfl (pgs_cons (pg_name (i := 3) sc_Log_init.nd rfl (Or.inl rfl)) (pgs_cons (pg_name (i := 4) sc_Log_init.nd rfl (Or.inl rfl)) pgs_nil)))) (fun _ _ _ _ _ => pts_nil) (fun _ _ _ _ _ => (pv 3)) (fun _ _ _ _ _ => (pe_call cRA.ok (hr.mono (by decide)) (by rfl) cRA.mg cRA.kp cRA.bd .nil pass0 (pa_cons (pv 4) pa_nil))))) rfl)
    (pss_one (ps_fld (pv 0) pe_non rfl))))))))))))), ?_⟩
    -- Checker(rows).check()
    refine st_drop ?_
    refine ⟨_, rfl, fun c dxc hc hdx ne => ?_⟩
    have s1 : Same H (upd (upd H dxc (.own c)) c (.ins C dxc [])) := (same_new hdx).trans (same_new (by rw [upd_ne ne.symm]; exact hc))
    have c1 : (upd (upd H dxc (.own c)) c (.ins C dxc [])) c = some (.ins C dxc []) := upd_same
    generalize upd (upd H dxc (.own c)) c (.ins C dxc []) = H1 at s1 c1 ⊢
    refine ⟨c, dxc, ra, rows, κ, rfl, c1, hrw.step (nt := true) (l := []) (.of s1) (by simp) (by simp), hg, fun H2 kd0 fk0 s2 ck hkd0 hfk0 => ⟨rfl, ?_⟩⟩
    have t2 : LamX.Tabs TT H2 := tabs_step (hT.ext s1) s2 (by intro b hb q; simp at hb; subst hb; rw [c1]; intro z; cases z)
    refine ⟨c, dxc, _, rfl, ck.ins, rfl, c, dxc, ra, kd0, fk0, rows, κ, rfl, ck, hg, t2, fun H3 s3 t3 => ?_⟩
    have s13 : StepN [] H H3 := ((StepB.of s1).then s2.weak (by simp [hc])).then s3 (by simp [s1.free hkd0, s1.free hfk0])
    clear s3 t2 ck s2 hkd0 hfk0 c1 s1 H2
    have l3 := s13.oth l _ (by simp) rfl hl
    have r3 := hrw.step s13 (by simp) (by simp)
    have f3 := s13.oth fa _ (by simp) rfl hfa
    -- first = {} if first is None else first
    refine st_asg ?_
    refine ⟨_, rfl, rfl, _, rfl, ifF (by intro z; cases z) ⟨_, rfl, ?_⟩⟩
    -- self.rows
    refine st_fld ?_
    refine rd_rows r3 hg.nd (Nat.le_trans hg.many.2 (by decide)) fun H4 ra' ns s4 hra' hns hsrt tr4 => ?_
    have l4 := s4 _ _ l3
    have fr1 : ∀ b u, b ≠ l → H b = some u → tblO u = false → b ≠ ra' := fun b u _ e ht z => by
      have q := s13.oth b u (by simp) ht e
      rw [z, hra'] at q
      cases q
    refine ⟨_, rfl, l, CL, dx, _, rfl, l4, TL.cl, TL.n_rows, by show 0 < 1000; decide, ?_⟩
    have hsp : (ns.map fun t => (t, rowOf rows t)).Perm rows := rowOf_perm hg.nd hns
    have hnm : (ns.map fun t => (t, rowOf rows t)).map (·.1) = ns := by rw [List.map_map]; exact List.map_id _
    generalize (ns.map fun t => (t, rowOf rows t)) = srows at tr4 hsp hnm
    have hgs : Good srows κ := hg.perm hsp
    have sA4 : StepN [l] H H4 := (s13.wide (by simp)).trans (.of s4)
    have t4 : LamX.Tabs TT H4 := t3.ext s4
    have nlr : ra' ≠ l := ne_none l3 hra'
    have s5 : Step [l] H4 (upd H4 l (.ins CL dx (putF "rows" (.ref ra') []))) := .put l4 rfl
    have l5 : (upd H4 l (.ins CL dx (putF "rows" (.ref ra') []))) l = some (.ins CL dx [("rows", .ref ra')]) := upd_same
    generalize upd H4 l (.ins CL dx (putF "rows" (.ref ra') [])) = H5 at s5 l5 ⊢
    have sA5 : StepN [l] H H5 := sA4.trans s5.weak
    have t5 : LamX.Tabs TT H5 := tabs_step t4 s5 (by intro b hb; simp at hb; subst hb; exact not_code l4 (by intro _ z; cases z))
    have tr5 : TRowsAt K H5 ra' srows := tr4.step s5 (by simpa using nlr)
    have f5 : H5 fa = some (.dK fv) := s5.oth fa _ (by simpa using ne_kind hfa hl (by intro z; cases z)) rfl (s4 _ _ f3)
    -- self.names
    obtain ⟨kvs, q1, q2⟩ := id tr5
    refine st_fld ?_
    refine ⟨_, rfl, l, CL, dx, _, _, rfl, l5, TL.cl, TL.n_rows, rfl, ra', kvs, rfl, q1, fun na hna => ?_⟩
    have e6 : (kvs.map fun kv => kV kv.1) = srows.map fun p => .str p.1 := by
      have := rws_keys (trw_rws q2)
      rw [show (kvs.map fun kv => kV kv.1) = (kvs.map (·.1)).map kV by rw [List.map_map]; rfl, this, List.map_map, List.map_map]
      rfl
    rw [e6]
    have s6 : Same H5 (upd H5 na (.tup (srows.map fun p => .str p.1))) := same_new hna
    have n6 : (upd H5 na (.tup (srows.map fun p => .str p.1))) na = some (.tup (srows.map fun p => .str p.1)) := upd_same
    generalize upd H5 na (.tup (srows.map fun p => .str p.1)) = H6 at s6 n6 ⊢
    refine ⟨_, rfl, l, CL, dx, _, rfl, s6 _ _ l5, TL.cl, TL.n_names, by show 1 < 1000; decide, ?_⟩
    have l6 := s6 _ _ l5
    have s7 : Step [l] H6 (upd H6 l (.ins CL dx (putF "names" (.ref na) [("rows", .ref ra')]))) := .put l6 rfl
    have l7 : (upd H6 l (.ins CL dx (putF "names" (.ref na) [("rows", .ref ra')]))) l = some (.ins CL dx [("rows", .ref ra'), ("names", .ref na)]) := upd_same
    generalize upd H6 l (.ins CL dx (putF "names" (.ref na) [("rows", .ref ra')])) = H7 at s7 l7 ⊢
    have s57 : Step [l] H5 H7 := (StepB.of s6).trans s7
    have sA7 : StepN [l] H H7 := sA5.trans s57.weak
    have t7 : LamX.Tabs TT H7 := tabs_step t5 s57 (by intro b hb; simp at hb; subst hb; exact not_code l5 (by intro _ z; cases z))
    have tr7 : TRowsAt K H7 ra' srows := tr5.step s57 (by simpa using nlr)
    have f7 : H7 fa = some (.dK fv) := s57.oth fa _ (by simpa using ne_kind hfa hl (by intro z; cases z)) rfl f5
    have n7 : SqT K H7 na (srows.map fun p => .str p.1) := sqt_step s7 (SqT.of n6)
    -- self.kinds
    refine st_fld ?_
    refine fun kd hkd => ⟨_, rfl, l, CL, dx, _, rfl, same_new hkd _ _ l7, TL.cl, TL.n_kinds, by show 2 < 1000; decide, ?_⟩
    have fr2 : ∀ b u, b ≠ l → H b = some u → tblO u = false → b ≠ kd := fun b u hb e ht z => by
      have q := sA7.oth b u (by simpa using hb) ht e
      rw [z, hkd] at q
      cases q
    have s8 : Same H7 (upd H7 kd (.dK [])) := same_new hkd
    have k8 : (upd H7 kd (.dK [])) kd = some (.dK []) := upd_same
    generalize upd H7 kd (.dK []) = H8 at s8 k8 ⊢
    have l8 := s8 _ _ l7
    have nkl : kd ≠ l := ne_none l7 hkd
    have nkr : ra' ≠ kd := fun z => by obtain ⟨_, q, _⟩ := tr7; rw [z, hkd] at q; cases q
    have nkf : fa ≠ kd := fun z => by rw [z, hkd] at f7; cases f7
    have s9 : Step [l] H8 (upd H8 l (.ins CL dx (putF "kinds" (.ref kd) [("rows", .ref ra'), ("names", .ref na)]))) := .put l8 rfl
    have l9 : (upd H8 l (.ins CL dx (putF "kinds" (.ref kd) [("rows", .ref ra'), ("names", .ref na)]))) l = some (.ins CL dx [("rows", .ref ra'), ("names", .ref na), ("kinds", .ref kd)]) := upd_same
    generalize upd H8 l (.ins CL dx (putF "kinds" (.ref kd) [("rows", .ref ra'), ("names", .ref na)])) = H9 at s9 l9 ⊢
    have s79 : Step [l] H7 H9 := (StepB.of s8).trans s9
    have k9 := s9.oth kd _ (by simpa using nkl) rfl k8
    -- self.forks
    refine st_fld ?_
    refine fun fo hfo' => ⟨_, rfl, l, CL, dx, _, rfl, same_new hfo' _ _ l9, TL.cl, TL.n_forks, by show 3 < 1000; decide, ?_⟩
    have sa : Same H9 (upd H9 fo (.dK [])) := same_new hfo'
    have oa : (upd H9 fo (.dK [])) fo = some (.dK []) := upd_same
    generalize upd H9 fo (.dK []) = Ha at sa oa ⊢
    have la := sa _ _ l9
    have nol : fo ≠ l := ne_none l9 hfo'
    have nok : kd ≠ fo := (ne_none k9 hfo').symm
    have sb : Step [l] Ha (upd Ha l (.ins CL dx (putF "forks" (.ref fo) [("rows", .ref ra'), ("names", .ref na), ("kinds", .ref kd)]))) := .put la rfl
    have lb : (upd Ha l (.ins CL dx (putF "forks" (.ref fo) [("rows", .ref ra'), ("names", .ref na), ("kinds", .ref kd)]))) l = some (.ins CL dx [("rows", .ref ra'), ("names", .ref na), ("kinds", .ref kd), ("forks", .ref fo)]) := upd_same
    generalize upd Ha l (.ins CL dx (putF "forks" (.ref fo) [("rows", .ref ra'), ("names", .ref na), ("kinds", .ref kd)])) = Hb at sb lb ⊢
    have s7b : Step [l] H7 Hb := s79.trans ((StepB.of sa).trans sb)
    have kb : Hb kd = some (.dK []) := sb.oth kd _ (by simpa using nkl) rfl (sa _ _ k9)
    have ob := sb.oth fo _ (by simpa using nol) rfl oa
    have trb : TRowsAt K Hb ra' srows := tr7.step s7b (by simpa using nlr)
    have nor : ra' ≠ fo := fun z => by
      have q := (tr7.step s79 (by simpa using nlr))
      obtain ⟨_, q, _⟩ := q
      rw [z, hfo'] at q
      cases q
    have nof : fa ≠ fo := fun z => by
      have q := s79.oth fa _ (by simpa using ne_kind hfa hl (by intro z; cases z)) rfl f7
      rw [z, hfo'] at q
      cases q
    -- the loop
    refine rd_kinds TL lb rfl rfl rfl trb kb ob nok nkr nor hgs fun Hc kk sc kc hkk w3 w4 w5 w6 w7 w8 => ?_
    dsimp only
    have hcode2 : ∀ b ∈ [kd, fo], ∀ q, Hb b ≠ some (LamX.CodeO b q) := by
      intro b hb
      simp at hb
      rcases hb with rfl | rfl
      · exact not_code kb (by intro _ z; cases z)
      · exact not_code ob (by intro _ z; cases z)
    have t7b : LamX.Tabs TT Hb := tabs_step t7 s7b (by intro b hb; simp at hb; subst hb; exact not_code l7 (by intro _ z; cases z))
    have tc : LamX.Tabs TT Hc := tabs_step t7b sc hcode2
    have lc := sc.oth l _ (by simp [nkl.symm, nol.symm]) rfl lb
    have trc : TRowsAt K Hc ra' srows := trb.step sc (by simp [nkr, nor])
    have fc : Hc fa = some (.dK fv) := sc.oth fa _ (by simp [nkf, nof]) rfl (s7b.oth fa _ (by simpa using ne_kind hfa hl (by intro z; cases z)) rfl f7)
    have nc : SqT K Hc na (srows.map fun p => .str p.1) := sqt_step sc (sqt_step s7b n7)
    have sAc : StepN [l] H Hc := by
      refine sA7.trans (StepB.then s7b sc fun b hb => ?_).weak
      simp at hb
      rcases hb with rfl | rfl
      · exact .inr hkd
      · exact .inr (step_free s79 (by simpa using nol) hfo')
    have hkv : ∀ x, objOf srows x → valV kk (Sum.inr x) = some (.str (κ x).str) := fun x hx => by
      obtain ⟨v, hv⟩ := Option.isSome_iff_exists.mp ((hkk.mem x).mpr hx)
      rw [hv, hkk.ok x v hv]
    clear s7b s79 s57 sA7 sA5 sA4 s5 s6 s7 s8 s9 sa sb sc s13 s4 t3 t4 t5 t7 t7b tr4 tr5 tr7 trb
    -- self.check_first(first)
    refine st_drop ?_
    refine ⟨_, rfl, l, dx, _, rfl, lc, rfl, _, rfl, ?_⟩
    refine ⟨l, dx, kd, fa, _, kk, fv, ks, κ, rfl, lc, rfl, kc, fc, ⟨hfk, by omega, fun x hx => ?_⟩, tc, fun Hd sd td => ?_⟩
    · obtain ⟨ho, i, hi, hc2⟩ := hfo x hx
      exact ⟨obj_name hg ho, i, hi, hkv x ((objOf_perm hsp x).mpr ho), hc2⟩
    have ld := sd.oth l _ (by simp) rfl lc
    have kdd := sd.oth kd _ (by simp) rfl kc
    have fdd := sd.oth fa _ (by simp) rfl fc
    have trd : TRowsAt K Hd ra' srows := trc.step sd (by simp)
    have nd' : SqT K Hd na (srows.map fun p => .str p.1) := sqt_step sd nc
    have sAd : StepN [l] H Hd := sAc.trans (sd.wide (by simp))
    obtain ⟨ks2, hks2⟩ := hkk.keys
    have hks2l : ks2.length < 64 := by
      have e := congrArg List.length hks2.1
      rw [List.length_map, List.length_map] at e
      have := hkk.len
      omega
    have hmem2 : ∀ x, x ∈ ks2 ↔ objOf srows x := fun x => (hks2.mem x).trans (hkk.mem x)
    -- self.first
    refine st_fld ?_
    refine rd_first (g := fstOf fv) TL ld rfl kdd hks2 hks2l (fun x hx => hkv x ((hmem2 x).mp hx)) fdd (fun x hx => ?_) fun He fi ys se hfi hys hysrt fie => ?_
    · unfold fstOf
      cases q : valV fv (Sum.inr x) with
      | none => rfl
      | some v =>
        have q2 := valV_in q
        rw [hfk] at q2
        obtain ⟨y, hy, e⟩ := List.mem_map.mp q2
        have e : y = x := Sum.inr.inj e
        subst e
        obtain ⟨_, i, hi, _⟩ := hfo y hy
        rw [q] at hi
        cases hi
        rfl
    have fr3 : ∀ b u, b ≠ l → H b = some u → tblO u = false → b ≠ fi := fun b u hb e ht z => by
      have q := sAd.oth b u (by simpa using hb) ht e
      rw [z, hfi] at q
      cases q
    generalize hzs : (ys.filter fun x => kNL (κ x)) = zs at fie
    have le := se _ _ ld
    refine ⟨_, rfl, l, CL, dx, _, rfl, le, TL.cl, TL.n_first, by show 4 < 1000; decide, ?_⟩
    have nfl : fi ≠ l := ne_none ld hfi
    have nfk : kd ≠ fi := (ne_none kdd hfi).symm
    have sf : Step [l] He (upd He l (.ins CL dx (putF "first" (.ref fi) [("rows", .ref ra'), ("names", .ref na), ("kinds", .ref kd), ("forks", .ref fo)]))) := .put le rfl
    have lf : (upd He l (.ins CL dx (putF "first" (.ref fi) [("rows", .ref ra'), ("names", .ref na), ("kinds", .ref kd), ("forks", .ref fo)]))) l = some (.ins CL dx [("rows", .ref ra'), ("names", .ref na), ("kinds", .ref kd), ("forks", .ref fo), ("first", .ref fi)]) := upd_same
    generalize upd He l (.ins CL dx (putF "first" (.ref fi) [("rows", .ref ra'), ("names", .ref na), ("kinds", .ref kd), ("forks", .ref fo)])) = Hf at sf lf ⊢
    have sdf : Step [l] Hd Hf := (StepB.of se).trans sf
    have kf := sdf.oth kd _ (by simpa using nkl) rfl kdd
    have trf : TRowsAt K Hf ra' srows := trd.step sdf (by simpa using nlr)
    have fif := sf.oth fi _ (by simpa using nfl) rfl fie
    have hzm : ∀ x, x ∈ zs ↔ objOf srows x ∧ kNL (κ x) = true := fun x => by
      rw [← hzs, List.mem_filter, hys.mem_iff, hmem2 x]
    have hzl : zs.length < 64 := by
      rw [← hzs]
      exact Nat.lt_of_le_of_lt (List.length_filter_le _ _) (hys.length_eq ▸ hks2l)
    -- self.cells
    refine st_fld ?_
    refine rd_cells (zs := zs) (g := fstOf fv) TL lf rfl rfl kf nfk hzl (fun x hx => hkv x ((hzm x).mp hx).1) fif fun Hg ce sg ceg => ?_
    have lg := sg.oth l _ (by simp) rfl lf
    refine ⟨_, rfl, l, CL, dx, _, rfl, lg, TL.cl, TL.n_cells, by show 5 < 1000; decide, ?_⟩
    have sh : Step [l] Hg (upd Hg l (.ins CL dx (putF "cells" (.ref ce) [("rows", .ref ra'), ("names", .ref na), ("kinds", .ref kd), ("forks", .ref fo), ("first", .ref fi)]))) := .put lg rfl
    have lh : (upd Hg l (.ins CL dx (putF "cells" (.ref ce) [("rows", .ref ra'), ("names", .ref na), ("kinds", .ref kd), ("forks", .ref fo), ("first", .ref fi)]))) l = some (.ins CL dx [("rows", .ref ra'), ("names", .ref na), ("kinds", .ref kd), ("forks", .ref fo), ("first", .ref fi), ("cells", .ref ce)]) := upd_same
    generalize upd Hg l (.ins CL dx (putF "cells" (.ref ce) [("rows", .ref ra'), ("names", .ref na), ("kinds", .ref kd), ("forks", .ref fo), ("first", .ref fi)])) = Hh at sh lh ⊢
    have sfh : Step [l] Hf Hh := (sg.wide (by simp)).trans sh
    have trh : TRowsAt K Hh ra' srows := trf.step sfh (by simpa using nlr)
    -- self.held
    refine st_fld ?_
    refine rd_each TL lh rfl trh (Nat.le_trans hgs.many.2 (by decide)) (fun p a xs H1 Q1 hp ha hpp kq => ?_) fun Hi he si hhe _ => ?_
    · obtain ⟨hs, h0, hst⟩ := (hgs.row p.1 p.2 (lookup_of hgs.nd hp)).held
      exact ⟨a, xs, p.2, hs, rfl, ha, hpp, Nat.le_trans (hgs.rlen hp) (by decide), hgs.oks hp, h0, hst, fun H' D s' _ _ => kq H' D s'⟩
    have li := si.oth l _ (by simp) rfl lh
    refine ⟨_, rfl, l, CL, dx, _, rfl, li, TL.cl, TL.n_held, by show 6 < 1000; decide, ?_⟩
    have sj : Step [l] Hi (upd Hi l (.ins CL dx (putF "held" (.ref he) [("rows", .ref ra'), ("names", .ref na), ("kinds", .ref kd), ("forks", .ref fo), ("first", .ref fi), ("cells", .ref ce)]))) := .put li rfl
    have lj : (upd Hi l (.ins CL dx (putF "held" (.ref he) [("rows", .ref ra'), ("names", .ref na), ("kinds", .ref kd), ("forks", .ref fo), ("first", .ref fi), ("cells", .ref ce)]))) l = some (.ins CL dx [("rows", .ref ra'), ("names", .ref na), ("kinds", .ref kd), ("forks", .ref fo), ("first", .ref fi), ("cells", .ref ce), ("held", .ref he)]) := upd_same
    generalize upd Hi l (.ins CL dx (putF "held" (.ref he) [("rows", .ref ra'), ("names", .ref na), ("kinds", .ref kd), ("forks", .ref fo), ("first", .ref fi), ("cells", .ref ce)])) = Hj at sj lj ⊢
    have shj : Step [l] Hh Hj := (si.wide (by simp)).trans sj
    have trj : TRowsAt K Hj ra' srows := trh.step shj (by simpa using nlr)
    -- self.raised
    refine st_fld ?_
    refine rd_each TL lj rfl trj (Nat.le_trans hgs.many.2 (by decide)) (fun p a xs H1 Q1 hp ha hpp kq => ?_) fun Hk rs sk hrs _ => ?_
    · exact ⟨a, xs, p.2, rfl, ha, hpp, Nat.le_trans (hgs.rlen hp) (by decide), hgs.oks hp, fun H' D s' _ _ => kq H' D s'⟩
    have lk := sk.oth l _ (by simp) rfl lj
    refine ⟨_, rfl, l, CL, dx, _, rfl, lk, TL.cl, TL.n_raised, by show 7 < 1000; decide, ?_⟩
    have sm : Step [l] Hk (upd Hk l (.ins CL dx (putF "raised" (.ref rs) [("rows", .ref ra'), ("names", .ref na), ("kinds", .ref kd), ("forks", .ref fo), ("first", .ref fi), ("cells", .ref ce), ("held", .ref he)]))) := .put lk rfl
    have lm : (upd Hk l (.ins CL dx (putF "raised" (.ref rs) [("rows", .ref ra'), ("names", .ref na), ("kinds", .ref kd), ("forks", .ref fo), ("first", .ref fi), ("cells", .ref ce), ("held", .ref he)]))) l = some (.ins CL dx [("rows", .ref ra'), ("names", .ref na), ("kinds", .ref kd), ("forks", .ref fo), ("first", .ref fi), ("cells", .ref ce), ("held", .ref he), ("raised", .ref rs)]) := upd_same
    generalize upd Hk l (.ins CL dx (putF "raised" (.ref rs) [("rows", .ref ra'), ("names", .ref na), ("kinds", .ref kd), ("forks", .ref fo), ("first", .ref fi), ("cells", .ref ce), ("held", .ref he)])) = Hm at sm lm ⊢
    have sjm : Step [l] Hj Hm := (sk.wide (by simp)).trans sm
    -- self.graph
    refine ⟨_, rfl, l, CL, dx, _, rfl, lm, TL.cl, TL.n_graph, by show 8 < 1000; decide, ?_⟩
    have sn : Step [l] Hm (upd Hm l (.ins CL dx (putF "graph" .non [("rows", .ref ra'), ("names", .ref na), ("kinds", .ref kd), ("forks", .ref fo), ("first", .ref fi), ("cells", .ref ce), ("held", .ref he), ("raised", .ref rs)]))) := .put lm rfl
    have sfn : Step [l] Hf (upd Hm l (.ins CL dx (putF "graph" .non [("rows", .ref ra'), ("names", .ref na), ("kinds", .ref kd), ("forks", .ref fo), ("first", .ref fi), ("cells", .ref ce), ("held", .ref he), ("raised", .ref rs)]))) := (sfh.trans shj).trans (sjm.trans sn)
    have sdn := sdf.trans sfn
    refine k _ srows [l, ra', kd, fi] (sAd.trans sdn.weak) (tabs_step td sdn (by intro b hb; simp at hb; subst hb; exact not_code ld (by intro _ z; cases z))) hsp ⟨⟨dx, ra', na, kd, fo, fi, ce, he, rs, rfl, upd_same, trf.step sfn (by simpa using nlr), sqt_step sdn nd', ⟨kk, sfn.oth kd _ (by simpa using nkl) rfl kf, hkk⟩, zs, sfn.oth fi _ (by simpa using nfl) rfl fif, ?_, ?_, hzm⟩, hgs, ?_⟩ (fun b u hb e ht z => ?_)
    · rw [← hzs]
      exact Srt.sorted_filter hysrt _
    · rw [← hzs]
      exact (hys.nodup_iff.mpr hks2.2).filter _
    · rw [hnm]
      exact hsrt
    · simp only [List.mem_cons, List.mem_nil_iff, or_false] at z
      rcases z with z | z | z | z
      · exact hb z
      · exact fr1 b u hb e ht z
      · exact fr2 b u hb e ht z
      · exact fr3 b u hb e ht z
end
end Lg

namespace Lg
open PySem L2 TL
theorem trw_val {K : PySem.W.Frag} {H : Hp} {x : Str} : ∀ {kvs : List (Key × V)} {rows : Rows}, Paired (TRw K H) kvs rows → (∀ es, rows.lookup x = some es → ∃ v, valV kvs (Sum.inr x) = some v ∧ TRowAt K H v es) ∧ (rows.lookup x = none → valV kvs (Sum.inr x) = none)
  | _, _, .nil => ⟨fun es h => (by cases h), fun _ => rfl⟩
  | kv :: kvs, p :: rows, .cons h hs => by
    obtain ⟨i1, i2⟩ := trw_val (x := x) hs
    obtain ⟨y, es0⟩ := p
    by_cases e : x = y
    · subst e
      refine ⟨fun es h2 => ?_, fun h2 => ?_⟩
      · rw [List.lookup_cons_self] at h2
        cases h2
        exact ⟨kv.2, valV_pos h.1, h.2⟩
      · rw [List.lookup_cons_self] at h2
        cases h2
    · have e1 : (x == y) = false := beq_eq_false_iff_ne.mpr e
      rw [List.lookup_cons, e1, valV_neg (fun z => e (Sum.inr.inj (h.1.symm.trans z)).symm)]
      exact ⟨i1, i2⟩
theorem paired_back {α β : Type} {R : α → β → Prop} : ∀ {as : List α} {bs : List β} {i : Nat} {b : β}, Paired R as bs → bs[i]? = some b → ∃ a, as[i]? = some a ∧ R a b
  | _, _, _, _, .nil, e => by simp at e
  | _, _, 0, _, .cons h _, e => by
    simp at e
    subst e
    exact ⟨_, rfl, h⟩
  | _, _, i + 1, b, .cons _ t, e => by
    obtain ⟨a, h1, h2⟩ := paired_back (i := i) t (by simpa using e)
    exact ⟨a, by simpa using h1, h2⟩
/-! ### BadEvent -/
section
variable {P : Program} {w : World} {K : PySem.W.Frag} {mg : Str → Option Value} {base : Heap} {f : Addr} {fd : FuncData} {C : Addr}
def spE (C : Addr) (fl : List Str) : Sp := fun vs H Q _ => ∃ (a : Addr) (ws : List V), vs = .ref a :: ws ∧ ws.length = fl.length ∧ H a = some (exo a C none) ∧
  ∀ (d : Addr) (H' : Hp), H d = none → d ≠ a → H' a = some (exo a C (some d)) → H' d = some (exd d (fl.zip ws).reverse) → (∀ b, b ≠ a → b ≠ d → H' b = H b) → Q .non H'
abbrev s_BadEvent_init : Stmt := inClass (top 4) 0
theorem sc_BadEvent_init : FnScope ["self", "e"] ["self", "e"] (defScope s_BadEvent_init) := ⟨rfl, rfl, rfl, by decide +kernel, rfl, by decide +kernel, by decide +kernel⟩
theorem ok_badevent (F : Fun K "__init__" "BadEvent.__init__" s_BadEvent_init f fd) (T : OexC K C) (nf : PySem.W.findIn K (.ref C) "e" = some none) : FnOk P w K mg base CX0 1 f fd ["self", "e"] (spE C ["e"]) := by
  refine F.ok sc_BadEvent_init (fun vs H Q E h => ?_) (fun cdv A outer s H vs Q E hr h => ?_)
  · obtain ⟨a, ws, rfl, hl, _⟩ := h
    show ws.length + 1 = _
    rw [hl]
    rfl
  · obtain ⟨a, ws, rfl, hl, ha, k⟩ := h
    obtain ⟨w0, rfl⟩ : ∃ w0, ws = [w0] := by
      match ws, hl with
      | [w0], _ => exact ⟨w0, rfl⟩
    refine ⟨_, pss_one (ps_ost (pv 0) (pv 1)), ?_⟩
    refine ⟨_, rfl, _, rfl, a, C, rfl, T, nf, Or.inl ⟨ha, fun dx hn hne => ?_⟩⟩
    exact k dx _ hn hne upd_same (by rw [upd_ne hne, upd_same]; rfl) (fun b h1 h2 => by rw [upd_ne h1, upd_ne h2])
/-- facts of an own error with one field -/
structure ErrC (P : Program) (w : World) (K : PySem.W.Frag) (mg : Str → Option Value) (base : Heap) (C : Addr) (x : Str) (fl : List Str) (ps : List Str) (fI : Addr) (fdI : FuncData) : Prop where
  oex : OexC K C
  ini : PySem.W.findIn K (.ref C) "__init__" = some (some (.ref fI))
  tyI : PySem.W.typeIn K (.ref fI) = some (.type "function")
  ok : FnOk P w K mg base CX0 1 fI fdI ps (spE C fl)
  bd : Binds K fdI ps []
  mg : mg x = some (.ref C)
/-! ### a thing that is no event of the log -/
inductive Odd (K : PySem.W.Frag) (H : Hp) (rows : Rows) : V → Prop
  | ty {v : V} {N : String} : TyX K H v (.type N) → N ∈ tyNames → N ≠ "tuple" → Odd K H rows v
  | len {a : Addr} {xs : List V} : SqT K H a xs → xs.length ≠ 2 → Odd K H rows (.ref a)
  | fst {a : Addr} {x y : V} {N : String} : SqT K H a [x, y] → TyX K H x (.type N) → N ∈ tyNames → N ≠ "str" → Odd K H rows (.ref a)
  | snd {a : Addr} {t : Str} {y : V} {N : String} : SqT K H a [.str t, y] → TyX K H y (.type N) → N ∈ tyNames → N ≠ "int" → Odd K H rows (.ref a)
  | name {a : Addr} {t : Str} {i : Int} : SqT K H a [.str t, .int i] → t ∉ rows.map (·.1) → Odd K H rows (.ref a)
  | place {a : Addr} {t : Str} {i : Int} {es : List Ev} : SqT K H a [.str t, .int i] → rows.lookup t = some es → ¬ (0 ≤ i ∧ i < es.length) → Odd K H rows (.ref a)
theorem isi_tup {N : String} (h : N ∈ tyNames) (hn : N ≠ "tuple") : PySem.W.kitOne K (.type N) (.type "tuple") = some false := by
  simp only [tyNames, List.mem_cons, List.mem_nil_iff, or_false] at h
  rcases h with rfl | rfl | rfl | rfl | rfl | rfl | rfl <;> first | exact absurd rfl hn | exact kit_ty (by decide +kernel)
theorem isi_str {N : String} (h : N ∈ tyNames) (hn : N ≠ "str") : PySem.W.kitOne K (.type N) (.type "str") = some false := by
  simp only [tyNames, List.mem_cons, List.mem_nil_iff, or_false] at h
  rcases h with rfl | rfl | rfl | rfl | rfl | rfl | rfl <;> first | exact absurd rfl hn | exact kit_ty (by decide +kernel)
abbrev s_want_event : Stmt := top 24
theorem sc_want_event : FnScope ["log", "e"] ["log", "e"] (defScope s_want_event) := ⟨rfl, rfl, rfl, by decide +kernel, rfl, by decide +kernel, by decide +kernel⟩
/-- an event of the log -/
def spWE (K : PySem.W.Frag) (CL : Addr) : Sp := fun vs H Q _ => ∃ (l a : Addr) (rows : Rows) (κ : Str → Kd) (g : Str → Int) (t : Str) (i : Nat) (es : List Ev), vs = [.ref l, .ref a] ∧ LogAt K H CL l rows κ g ∧ SqT K H a [.str t, .int i] ∧ rows.lookup t = some es ∧ i < es.length ∧ Q .non H
theorem ok_want_event0 {CL : Addr} (F : Fun K "want_event" "want_event" s_want_event f fd) (T : Gb K mg) (TL : LogC K CL) (cInt : C0 P w K mg base 1 "is_integer" ["thing"] (spInt K)) : FnOk P w K mg base CX0 3 f fd ["log", "e"] (spWE K CL) := by
  obtain ⟨_, _, cInt⟩ := cInt
  refine F.ok sc_want_event (fun vs H Q E h => ?_) (fun cdv A outer s H vs Q E hr h => ?_)
  · obtain ⟨l, a, rows, κ, g, t, i, es, rfl, _⟩ := h
    rfl
  · obtain ⟨l, a, rows, κ, g, t, i, es, rfl, hl, ha, hes, hi, k⟩ := h
    have hu := hu_of hr
    obtain ⟨dx, ra, na, kd, fo, fi, ce, he, rs, ins, tr, _⟩ := hl.ex
    obtain ⟨kvs, r1, r2⟩ := tr
    obtain ⟨v, hv, ar, xs, rfl, har, hp⟩ := (trw_val (x := t) r2).1 es hes
    have hlen : xs.length = es.length := Paired.length hp
    refine ⟨_, pss_cons (ps_if (PW.pt (pw_or (pt_not (pt_val (pe_callB call_isi (by rfl) T.m_isinstance PyProof.Rows.boot_isinstance (pa_cons (pv 1) (pa_cons (pe_bltn (v := .ty "tuple") (by rfl) T.m_tuple (by decide +kernel) rfl) pa_nil))))) (pw_or (pt_cmpR op_ne (pe_callB call_len_seq (by rfl) T.m_len PySem.boot_len (pa_cons (pv 1) pa_nil)) pe_int (nomark _)) (pw_or (pt_not (pt_val (pe_callB call_isi (by rfl) T.m_isinstance PyProof.Rows.boot_isinstance (pa_cons (pe_ix ix_tup (pv 1) pe_int (fun _ _ => rfl)) (pa_cons (pe_bltn (v := .ty "str") (by rfl) T.m_str (by decide +kernel) rfl) pa_nil))))) (pw_or1 (pt_not (pt_val (pe_call cInt.ok (hr.mono (by decide)) (by rfl) cInt.mg cInt.kp cInt.bd .nil pass0 (pa_cons (pe_ix ix_tup (pv 1) pe_int (fun _ _ => rfl)) pa_nil))))))))) (pss_one (ps_never)) (pss_nil))
    (pss_one (ps_if (PW.pt (pw_or (pt_cmp (pc_dnotin hu (pe_ix ix_tup (pv 1) pe_int (fun _ _ => rfl)) (pe_fld (pv 0) rfl))) (pw_or1 (pt_not (pt_chain op_le op_lt pe_int (pe_ix ix_tup (pv 1) pe_int (fun _ _ => rfl)) (pe_callB call_len_seq (by rfl) T.m_len PySem.boot_len (pa_cons (pe_dget hu (pe_fld (pv 0) rfl) (pe_ix ix_tup (pv 1) pe_int (fun _ _ => rfl)) (fun _ _ => rfl)) pa_nil))))))) (pss_one (ps_never)) (pss_nil))), ?_⟩
    refine st_ifW (fun H1 => H1 = H) (fun R hR => ?_) (fun H1 e => ?_)
    · refine ⟨_, rfl, _, _, _, _, true, rfl, .ty _, ty_tup ha, kit_ty (by decide +kernel), true, rfl, iteF ?_⟩
      refine ⟨_, rfl, a, _, rfl, .inr ha, rfl, _, rfl, iteNS rfl ?_⟩
      refine ⟨_, rfl, a, _, _, _, rfl, rfl, ha, atI_nat (j := 0) rfl, _, _, _, _, true, rfl, .ty _, ty_str _, kit_ty (by decide +kernel), true, rfl, iteF ?_⟩
      exact ⟨_, rfl, a, _, _, _, rfl, rfl, ha, atI_nat (j := 1) rfl, _, "int", rfl, .base (.int _), by decide, true, rfl, iteF (hR _ rfl)⟩
    · subst e
      refine st_ifl ?_
      refine ⟨_, rfl, a, _, _, _, rfl, rfl, ha, atI_nat (j := 0) rfl, _, rfl, l, CL, dx, _, _, rfl, ins, TL.cl, TL.n_rows, rfl, ra, _, rfl, DGet.k (k := Sum.inr t) r1, _, rfl, ?_⟩
      rw [hv]
      refine iteF ?_
      refine ⟨_, rfl, a, _, _, _, rfl, rfl, ha, atI_nat (j := 1) rfl, _, _, rfl, rfl, _, rfl, ifT (by omega) ?_⟩
      refine ⟨_, rfl, l, CL, dx, _, _, rfl, ins, TL.cl, TL.n_rows, rfl, _, rfl, a, _, _, _, rfl, rfl, ha, atI_nat (j := 0) rfl, ra, _, rfl, by rw [← hv]; exact DGet.k (k := Sum.inr t) r1, ar, xs, rfl, .inr har, _, _, rfl, rfl, _, rfl, ?_⟩
      rw [decide_eq_true (show ((i : Nat) : Int) < (xs.length : Nat) by rw [hlen]; omega)]
      exact iteF k
/-- a thing that is none -/
def spWX (K : PySem.W.Frag) (CL CB : Addr) : Sp := fun vs H _ E => ∃ (l : Addr) (v : V) (rows : Rows) (κ : Str → Kd) (g : Str → Int), vs = [.ref l, v] ∧ LogAt K H CL l rows κ g ∧ Odd K H rows v ∧
  ∀ (d : Addr) (H' : Hp), Same H H' → H' d = some (.xd [("e", v)]) → E (.ref CB) (some d) H'
theorem ok_want_eventX {CL CB fI : Addr} {fdI : FuncData} (F : Fun K "want_event" "want_event" s_want_event f fd) (T : Gb K mg) (TL : LogC K CL) (TB : ErrC P w K mg base CB "BadEvent" ["e"] ["self", "e"] fI fdI) (cInt : C0 P w K mg base 1 "is_integer" ["thing"] (spInt K)) :
    FnOk P w K mg base (L2.CX P w) 3 f fd ["log", "e"] (spWX K CL CB) := by
  obtain ⟨_, _, cInt⟩ := cInt
  refine F.okX sc_want_event (fun vs H Q E h => ?_) (fun cdv A outer s H vs Q E hr h => ?_)
  · obtain ⟨l, v, rows, κ, g, rfl, _⟩ := h
    rfl
  · obtain ⟨l, v, rows, κ, g, rfl, hl, ho, k⟩ := h
    have hu := hu_of hr
    obtain ⟨dx, ra, na, kd, fo, fi, ce, he, rs, ins, tr, _⟩ := hl.ex
    obtain ⟨kvs, r1, r2⟩ := tr
    have out : ∀ (ta : TA) (σ : St), (∀ Q1 : List V → Hp → Prop, Q1 [v] H → ta σ H Q1) → tMkO CB (spE CB ["e"]) [] ta σ H (fun cls d H' => E cls d H') := fun ta σ hta => by
      refine hta _ ⟨by show 1 ≤ 1000; decide, fun a ha => ⟨a, [v], rfl, rfl, upd_same, fun d H' hd hne h1 h2 h3 => ⟨rfl, d, _, h1, h2, ?_, ?_⟩⟩⟩
      · rw [upd_ne hne] at hd
        exact hd
      · have hdH : H d = none := by rw [upd_ne hne] at hd; exact hd
        refine k d _ (fun b u e => ?_) upd_same
        have hbd : b ≠ d := ne_of_none e hdH
        have hba : b ≠ a := ne_of_none e ha
        rw [upd_ne hbd, del_ne hba, h3 b hba hbd, upd_ne hba]
        exact e
    refine ⟨_, pss_cons (ps_if (PW.pt (pw_or (pt_not (pt_val (pe_callB call_isi (by rfl) T.m_isinstance PyProof.Rows.boot_isinstance (pa_cons (pv 1) (pa_cons (pe_bltn (v := .ty "tuple") (by rfl) T.m_tuple (by decide +kernel) rfl) pa_nil))))) (pw_or (pt_cmpR op_ne (pe_callB call_len_seq (by rfl) T.m_len PySem.boot_len (pa_cons (pv 1) pa_nil)) pe_int (nomark _)) (pw_or (pt_not (pt_val (pe_callB call_isi (by rfl) T.m_isinstance PyProof.Rows.boot_isinstance (pa_cons (pe_ix ix_tup (pv 1) pe_int (fun _ _ => rfl)) (pa_cons (pe_bltn (v := .ty "str") (by rfl) T.m_str (by decide +kernel) rfl) pa_nil))))) (pw_or1 (pt_not (pt_val (pe_call cInt.ok (hr.mono (by decide)) (by rfl) cInt.mg cInt.kp cInt.bd .nil pass0 (pa_cons (pe_ix ix_tup (pv 1) pe_int (fun _ _ => rfl)) pa_nil))))))))) (pss_one ((ps_raise rfl (takes_of rfl rfl rfl rfl) (pmk_oex TB.oex TB.ini TB.tyI TB.ok (hr.mono (by decide)) TB.bd .nil pass0 (by rfl) TB.mg (pa_cons (pv 1) pa_nil))))) (pss_nil))
    (pss_one (ps_if (PW.pt (pw_or (pt_cmp (pc_dnotin hu (pe_ix ix_tup (pv 1) pe_int (fun _ _ => rfl)) (pe_fld (pv 0) rfl))) (pw_or1 (pt_not (pt_chain op_le op_lt pe_int (pe_ix ix_tup (pv 1) pe_int (fun _ _ => rfl)) (pe_callB call_len_seq (by rfl) T.m_len PySem.boot_len (pa_cons (pe_dget hu (pe_fld (pv 0) rfl) (pe_ix ix_tup (pv 1) pe_int (fun _ _ => rfl)) (fun _ _ => rfl)) pa_nil))))))) (pss_one ((ps_raise rfl (takes_of rfl rfl rfl rfl) (pmk_oex TB.oex TB.ini TB.tyI TB.ok (hr.mono (by decide)) TB.bd .nil pass0 (by rfl) TB.mg (pa_cons (pv 1) pa_nil))))) (pss_nil))), ?_⟩
    have out2 := fun σ (e : σ[1]? = some (some v)) => out (tCons (tVar 1) tNil) σ fun Q1 q => ⟨v, e, q⟩
    cases ho with
    | ty hty hN hne =>
      refine st_if ?_
      exact ⟨_, rfl, _, _, _, _, false, rfl, .ty _, hty, isi_tup hN hne, false, rfl, iteT (iteT (out2 _ rfl))⟩
    | len ha hx =>
      refine st_if ?_
      refine ⟨_, rfl, _, _, _, _, true, rfl, .ty _, ty_tup ha, kit_ty (by decide +kernel), true, rfl, iteF ?_⟩
      refine ⟨_, rfl, _, _, rfl, .inr ha, rfl, _, rfl, ifNT ?_ (iteT (out2 _ rfl))⟩
      intro z
      have z := V.int.inj z
      omega
    | fst ha hty hN hne =>
      refine st_if ?_
      refine ⟨_, rfl, _, _, _, _, true, rfl, .ty _, ty_tup ha, kit_ty (by decide +kernel), true, rfl, iteF ?_⟩
      refine ⟨_, rfl, _, _, rfl, .inr ha, rfl, _, rfl, iteNS rfl ?_⟩
      exact ⟨_, rfl, _, _, _, _, rfl, rfl, ha, atI_nat (j := 0) rfl, _, _, _, _, false, rfl, .ty _, hty, isi_str hN hne, false, rfl, iteT (iteT (out2 _ rfl))⟩
    | @snd a t y N ha hty hN hne =>
      refine st_if ?_
      refine ⟨_, rfl, _, _, _, _, true, rfl, .ty _, ty_tup ha, kit_ty (by decide +kernel), true, rfl, iteF ?_⟩
      refine ⟨_, rfl, _, _, rfl, .inr ha, rfl, _, rfl, iteNS rfl ?_⟩
      refine ⟨_, rfl, _, _, _, _, rfl, rfl, ha, atI_nat (j := 0) rfl, _, _, _, _, true, rfl, .ty _, ty_str _, kit_ty (by decide +kernel), true, rfl, iteF ?_⟩
      refine ⟨_, rfl, _, _, _, _, rfl, rfl, ha, atI_nat (j := 1) rfl, _, N, rfl, hty, hN, _, rfl, ?_⟩
      rw [show (N == "int") = false from beq_eq_false_iff_ne.mpr hne]
      exact iteT (out2 _ rfl)
    | @name a t i ha hnm =>
      refine st_if ?_
      refine ⟨_, rfl, _, _, _, _, true, rfl, .ty _, ty_tup ha, kit_ty (by decide +kernel), true, rfl, iteF ?_⟩
      refine ⟨_, rfl, _, _, rfl, .inr ha, rfl, _, rfl, iteNS rfl ?_⟩
      refine ⟨_, rfl, _, _, _, _, rfl, rfl, ha, atI_nat (j := 0) rfl, _, _, _, _, true, rfl, .ty _, ty_str _, kit_ty (by decide +kernel), true, rfl, iteF ?_⟩
      refine ⟨_, rfl, _, _, _, _, rfl, rfl, ha, atI_nat (j := 1) rfl, _, "int", rfl, .base (.int _), by decide, true, rfl, iteF ?_⟩
      refine st_nx ?_
      dsimp only
      refine st_ifl ?_
      refine ⟨_, rfl, a, _, _, _, rfl, rfl, ha, atI_nat (j := 0) rfl, _, rfl, l, CL, dx, _, _, rfl, ins, TL.cl, TL.n_rows, rfl, ra, _, rfl, DGet.k (k := Sum.inr t) r1, _, rfl, ?_⟩
      rw [(trw_val (x := t) r2).2 (lookup_none hnm)]
      exact iteT (iteT (out2 _ rfl))
    | @place a t i es ha hes hni =>
      obtain ⟨v, hv, ar, xs, rfl, har, hp⟩ := (trw_val (x := t) r2).1 es hes
      have hlen : xs.length = es.length := Paired.length hp
      refine st_if ?_
      refine ⟨_, rfl, _, _, _, _, true, rfl, .ty _, ty_tup ha, kit_ty (by decide +kernel), true, rfl, iteF ?_⟩
      refine ⟨_, rfl, _, _, rfl, .inr ha, rfl, _, rfl, iteNS rfl ?_⟩
      refine ⟨_, rfl, _, _, _, _, rfl, rfl, ha, atI_nat (j := 0) rfl, _, _, _, _, true, rfl, .ty _, ty_str _, kit_ty (by decide +kernel), true, rfl, iteF ?_⟩
      refine ⟨_, rfl, _, _, _, _, rfl, rfl, ha, atI_nat (j := 1) rfl, _, "int", rfl, .base (.int _), by decide, true, rfl, iteF ?_⟩
      refine st_nx ?_
      dsimp only
      refine st_ifl ?_
      refine ⟨_, rfl, a, _, _, _, rfl, rfl, ha, atI_nat (j := 0) rfl, _, rfl, l, CL, dx, _, _, rfl, ins, TL.cl, TL.n_rows, rfl, ra, _, rfl, DGet.k (k := Sum.inr t) r1, _, rfl, ?_⟩
      rw [hv]
      refine iteF ?_
      refine ⟨_, rfl, a, _, _, _, rfl, rfl, ha, atI_nat (j := 1) rfl, _, _, rfl, rfl, _, rfl, ?_⟩
      by_cases h0 : 0 ≤ i
      · refine ifT h0 ?_
        refine ⟨_, rfl, l, CL, dx, _, _, rfl, ins, TL.cl, TL.n_rows, rfl, _, rfl, a, _, _, _, rfl, rfl, ha, atI_nat (j := 0) rfl, ra, _, rfl, by rw [← hv]; exact DGet.k (k := Sum.inr t) r1, ar, xs, rfl, .inr har, _, _, rfl, rfl, _, rfl, ?_⟩
        rw [decide_eq_false (show ¬ i < ((xs.length : Nat) : Int) by rw [hlen]; exact fun z => hni ⟨h0, z⟩)]
        exact iteT (out2 _ rfl)
      · exact ifF h0 ⟨false, rfl, iteT (out2 _ rfl)⟩
/-! ### the log's own questions -/
abbrev s_Log_event : Stmt := inClass (top 23) 5
theorem sc_Log_event : FnScope ["self", "e"] ["self", "e"] (defScope s_Log_event) := ⟨rfl, rfl, rfl, by decide +kernel, rfl, by decide +kernel, by decide +kernel⟩
def spEv (K : PySem.W.Frag) (CL : Addr) : Sp := fun vs H Q _ => ∃ (l a : Addr) (rows : Rows) (κ : Str → Kd) (g : Str → Int) (t : Str) (i : Nat) (es : List Ev) (e : Ev), vs = [.ref l, .ref a] ∧ LogAt K H CL l rows κ g ∧ SqT K H a [.str t, .int i] ∧ rows.lookup t = some es ∧ es[i]? = some e ∧
  ∀ v, EvAt K H v e → Q v H
theorem ok_event0 {CL : Addr} (F : Fun K "event" "Log.event" s_Log_event f fd) (T : Gb K mg) (TL : LogC K CL) (cWE : C0 P w K mg base 3 "want_event" ["log", "e"] (spWE K CL)) : FnOk P w K mg base CX0 4 f fd ["self", "e"] (spEv K CL) := by
  obtain ⟨_, _, cWE⟩ := cWE
  refine F.ok sc_Log_event (fun vs H Q E h => ?_) (fun cdv A outer s H vs Q E hr h => ?_)
  · obtain ⟨l, a, rows, κ, g, t, i, es, e, rfl, _⟩ := h
    rfl
  · obtain ⟨l, a, rows, κ, g, t, i, es, e, rfl, hl, ha, hes, hi, k⟩ := h
    have hu := hu_of hr
    refine ⟨_, pss_cons (ps_expr (pe_call cWE.ok (hr.mono (by decide)) (by rfl) cWE.mg cWE.kp cWE.bd .nil pass0 (pa_cons (pv 0) (pa_cons (pv 1) pa_nil))))
    (pss_one (ps_ret (pe_ix ix_tup (pe_dget hu (pe_fld (pv 0) rfl) (pe_ix ix_tup (pv 1) pe_int (fun _ _ => rfl)) (fun _ _ => rfl)) (pe_ix ix_tup (pv 1) pe_int (fun _ _ => rfl)) (fun _ _ => rfl)))), ?_⟩
    refine st_drop ?_
    refine ⟨_, rfl, _, rfl, l, a, rows, κ, g, t, i, es, rfl, hl, ha, hes, (List.getElem?_eq_some_iff.mp hi).1, ?_⟩
    obtain ⟨dx, ra, na, kd, fo, fi, ce, he, rs, ins, tr, _⟩ := hl.ex
    obtain ⟨kvs, r1, r2⟩ := tr
    obtain ⟨v, hv, ar, xs, rfl, har, hp⟩ := (trw_val (x := t) r2).1 es hes
    obtain ⟨x, hx, hxe⟩ := paired_back hp hi
    refine ⟨_, rfl, l, CL, dx, _, _, rfl, ins, TL.cl, TL.n_rows, rfl, _, rfl, a, _, _, _, rfl, rfl, ha, atI_nat (j := 0) rfl, ra, _, rfl, by rw [← hv]; exact DGet.k (k := Sum.inr t) r1, ?_⟩
    exact ⟨_, rfl, a, _, _, _, rfl, rfl, ha, atI_nat (j := 1) rfl, ar, xs, _, x, rfl, rfl, har, atI_nat hx, k x hxe⟩
def spEvX (K : PySem.W.Frag) (CL CB : Addr) : Sp := fun vs H _ E => ∃ (l : Addr) (v : V) (rows : Rows) (κ : Str → Kd) (g : Str → Int), vs = [.ref l, v] ∧ LogAt K H CL l rows κ g ∧ Odd K H rows v ∧
  ∀ (d : Addr) (H' : Hp), Same H H' → H' d = some (.xd [("e", v)]) → E (.ref CB) (some d) H'
theorem ok_eventX {CL CB : Addr} {fW : Addr} {fdW : FuncData} (F : Fun K "event" "Log.event" s_Log_event f fd) (T : Gb K mg) (TL : LogC K CL) (cWE : Cal P w K mg base (L2.CX P w) 3 "want_event" fW fdW ["log", "e"] (spWX K CL CB)) :
    FnOk P w K mg base (L2.CX P w) 4 f fd ["self", "e"] (spEvX K CL CB) := by
  refine F.okX sc_Log_event (fun vs H Q E h => ?_) (fun cdv A outer s H vs Q E hr h => ?_)
  · obtain ⟨l, v, rows, κ, g, rfl, _⟩ := h
    rfl
  · obtain ⟨l, v, rows, κ, g, rfl, hl, ho, k⟩ := h
    have hu := hu_of hr
    refine ⟨_, pss_cons (ps_expr (pe_callS cWE.ok (hr.mono (by decide)) (by rfl) cWE.mg cWE.kp cWE.bd (fun σ => passAt (takes_of rfl rfl rfl rfl) σ) (pa_cons (pv 0) (pa_cons (pv 1) pa_nil))))
    (pss_one (ps_ret (pe_ix ix_tup (pe_dget hu (pe_fld (pv 0) rfl) (pe_ix ix_tup (pv 1) pe_int (fun _ _ => rfl)) (fun _ _ => rfl)) (pe_ix ix_tup (pv 1) pe_int (fun _ _ => rfl)) (fun _ _ => rfl)))), ?_⟩
    refine st_drop ?_
    exact ⟨_, rfl, _, rfl, l, v, rows, κ, g, rfl, hl, ho, k⟩
abbrev s_Log_threads : Stmt := inClass (top 23) 3
theorem sc_Log_threads : FnScope ["self"] ["self"] (defScope s_Log_threads) := ⟨rfl, rfl, rfl, by decide +kernel, rfl, by decide +kernel, by decide +kernel⟩
def spTh (K : PySem.W.Frag) (CL : Addr) : Sp := fun vs H Q _ => ∃ (l : Addr) (rows : Rows) (κ : Str → Kd) (g : Str → Int), vs = [.ref l] ∧ LogAt K H CL l rows κ g ∧ ∀ p, H p = none → Q (.ref p) (upd H p (.lst ((rows.map (·.1)).map V.str)))
theorem ok_threads {CL : Addr} (F : Fun K "threads" "Log.threads" s_Log_threads f fd) (T : Gb K mg) (TL : LogC K CL) : FnOk P w K mg base CX0 1 f fd ["self"] (spTh K CL) := by
  refine F.ok sc_Log_threads (fun vs H Q E h => ?_) (fun cdv A outer s H vs Q E hr h => ?_)
  · obtain ⟨l, rows, κ, g, rfl, _⟩ := h
    rfl
  · obtain ⟨l, rows, κ, g, rfl, hl, k⟩ := h
    refine ⟨_, pss_one (ps_ret (pe_callTy call_list_of (by rfl) T.m_list (by decide +kernel) (pa_cons (pe_fld (pv 0) rfl) pa_nil))), ?_⟩
    obtain ⟨dx, ra, na, kd, fo, fi, ce, he, rs, ins, tr, nm, _⟩ := hl.ex
    refine ⟨_, rfl, l, CL, dx, _, _, rfl, ins, TL.cl, TL.n_names, rfl, na, _, rfl, .inr nm, fun p hp => ?_⟩
    have := k p hp
    rw [List.map_map] at this
    exact this
abbrev s_Log_objects : Stmt := inClass (top 23) 6
theorem sc_Log_objects : FnScope ["self"] ["self"] (defScope s_Log_objects) := ⟨rfl, rfl, rfl, by decide +kernel, rfl, by decide +kernel, by decide +kernel⟩
def spOb (K : PySem.W.Frag) (CL : Addr) : Sp := fun vs H Q _ => ∃ (l : Addr) (rows : Rows) (κ : Str → Kd) (g : Str → Int), vs = [.ref l] ∧ LogAt K H CL l rows κ g ∧
  ∀ (ys : List Str) p, PyProof.Rows.sortedS ys = true → ys.Nodup → (∀ x, x ∈ ys ↔ objOf rows x) → H p = none → Q (.ref p) (upd H p (.lst (ys.map V.str)))
theorem ok_objects {CL : Addr} (F : Fun K "objects" "Log.objects" s_Log_objects f fd) (T : Gb K mg) (TL : LogC K CL) : FnOk P w K mg base CX0 1 f fd ["self"] (spOb K CL) := by
  refine F.ok sc_Log_objects (fun vs H Q E h => ?_) (fun cdv A outer s H vs Q E hr h => ?_)
  · obtain ⟨l, rows, κ, g, rfl, _⟩ := h
    rfl
  · obtain ⟨l, rows, κ, g, rfl, hl, k⟩ := h
    refine ⟨_, pss_one (ps_ret (pe_callB (call_sortedD rfl) (by rfl) T.m_sorted (by decide +kernel) (pa_cons (pe_fld (pv 0) rfl) pa_nil))), ?_⟩
    obtain ⟨dx, ra, na, kd, fo, fi, ce, he, rs, ins, tr, nm, ⟨kk, kd1, hkk⟩, _⟩ := hl.ex
    obtain ⟨ks, hks⟩ := hkk.keys
    have hkl : ks.length < 64 := by
      have e := congrArg List.length hks.1
      rw [List.length_map, List.length_map] at e
      have := hkk.len
      omega
    refine ⟨_, rfl, l, CL, dx, _, _, rfl, ins, TL.cl, TL.n_kinds, rfl, kd, kk, ks, rfl, .inl kd1, hks.1, hkl, fun ys p hpm hs hp => ?_⟩
    exact k ys p hs (hpm.nodup_iff.mpr hks.2) (fun x => hpm.mem_iff.trans ((hks.mem x).trans (hkk.mem x))) hp
end
end Lg

namespace Lg
open PySem L2 TL
theorem good_tup {ds : List PyData} (h : ∀ d ∈ ds, GoodD d) : (PyData.tuple ds).canLay0 = true ∧ (PyData.tuple ds).depth ≤ 20 := by
  obtain ⟨h1, h2⟩ := good_all h
  refine ⟨by rw [PyData.canLay0]; exact h1, ?_⟩
  rw [PyData.depth]
  omega
theorem evs_dp {K : PySem.W.Frag} {H : Hp} : ∀ {xs : List V} {es : List Ev}, Paired (EvAt K H) xs es → DpAll K H xs (es.map evD)
  | _, _, .nil => .nil
  | _, _, .cons h hs => .cons (ev_dp h) (evs_dp hs)
theorem eqvAll_len : ∀ {xs ys : List PyData}, xs.length ≠ ys.length → PyData.eqvAll xs ys = false
  | [], [], h => absurd rfl h
  | _ :: xs, _ :: ys, h => by
    rw [PyData.eqvAll, eqvAll_len (xs := xs) (ys := ys) (fun z => h (by simp [z])), Bool.and_false]
  | [], _ :: _, _ => by rw [PyData.eqvAll]
  | _ :: _, [], _ => by rw [PyData.eqvAll]
/-- the rows' data by key -/
def rowD (rows : Rows) : Key → PyData
  | .inr t => .tuple ((rowOf rows t).map evD)
  | .inl _ => .none
theorem row_good {rows : Rows} {κ : Str → Kd} (g : Good rows κ) {t : Str} (ht : t ∈ rows.map (·.1)) : (rowD rows (.inr t)).canLay0 = true ∧ (rowD rows (.inr t)).depth ≤ 20 := by
  obtain ⟨p, hp, rfl⟩ := List.mem_map.mp ht
  refine good_tup fun d hd => ?_
  obtain ⟨e, he, rfl⟩ := List.mem_map.mp hd
  rw [rowOf, lookup_of g.nd hp] at he
  exact ev_good (g.oks hp e he)
theorem trow_dp {K : PySem.W.Frag} {H : Hp} {v : V} {es : List Ev} (h : TRowAt K H v es) : Dp K H v (.tuple (es.map evD)) := by
  obtain ⟨a, xs, rfl, h1, h2⟩ := h
  exact .tup h1 (evs_dp h2)
theorem trw_mem {K : PySem.W.Frag} {H : Hp} {rows : Rows} {kvs : List (Key × V)} (h : Paired (TRw K H) kvs rows) {k : Key} {v : V} (hm : (k, v) ∈ kvs) : ∃ p ∈ rows, k = .inr p.1 ∧ TRowAt K H v p.2 := by
  obtain ⟨i, hi⟩ := List.getElem?_of_mem hm
  obtain ⟨p, hp, h1, h2⟩ := paired_at h hi
  exact ⟨p, List.mem_of_getElem? hp, h1, h2⟩
theorem valV_mem {κ : Type} [DecidableEq κ] {kvs : List (κ × V)} {k : κ} {v : V} (h : valV kvs k = some v) : (k, v) ∈ kvs := by
  unfold valV at h
  obtain ⟨p, h1, h2⟩ := Option.map_eq_some_iff.mp h
  have h3 := List.find?_some h1
  have h4 := List.mem_of_find?_eq_some h1
  have e : p.1 = k := of_decide_eq_true h3
  rw [← e, ← h2]
  exact h4
theorem trw_data {K : PySem.W.Frag} {H : Hp} {rows : Rows} {κ : Str → Kd} {kvs : List (Key × V)} (g : Good rows κ) (h : Paired (TRw K H) kvs rows) {k : Key} {v : V} (hm : (k, v) ∈ kvs) : Dp K H v (rowD rows k) ∧ (rowD rows k).canLay0 = true ∧ (rowD rows k).depth ≤ 20 := by
  obtain ⟨p, hp, rfl, ht⟩ := trw_mem h hm
  refine ⟨?_, row_good g (List.mem_map_of_mem hp)⟩
  have e : rowOf rows p.1 = p.2 := by rw [rowOf, lookup_of g.nd hp]; rfl
  show Dp K H v (.tuple ((rowOf rows p.1).map evD))
  rw [e]
  exact trow_dp ht
/-- facts for Log.__eq__ -/
structure LgQ (K : PySem.W.Frag) (mg : Str → Option Value) (CL : Addr) : Prop where
  mgL : mg "Log" = some (.ref CL)
  kO : PySem.W.kitOne K (.ref CL) (.ref CL) = some true
  kD : PySem.W.kitOne K (.type "dict") (.ref CL) = some false
  kN : PySem.W.kitOne K (.type "NoneType") (.ref CL) = some false
  ha : PySem.W.findIn K (.ref CL) "__class__" = some (some (.builtin "object.__class__"))
  hn : PySem.W.specialIn K (.builtin "object.__class__") "__get__" = some (some (.builtin "getset_descriptor.__get__"))
  ht : PySem.W.takesIn K (.builtin "object.__class__") = some true
  hm : PySem.W.mroIn K CL (.type "object") = some true
section
variable {P : Program} {w : World} {K : PySem.W.Frag} {mg : Str → Option Value} {base : Heap} {f : Addr} {fd : FuncData} {CL : Addr}
abbrev s_Log_eq : Stmt := inClass (top 23) 2
theorem sc_Log_eq : FnScope ["self", "other"] ["self", "other"] (defScope s_Log_eq) := ⟨rfl, rfl, rfl, by decide +kernel, rfl, by decide +kernel, by decide +kernel⟩
inductive EqCase (K : PySem.W.Frag) (H : Hp) (CL : Addr) (rows : Rows) (κ : Str → Kd) (g : Str → Int) : V → Bool → Prop
  | non : EqCase K H CL rows κ g .non false
  | dict {b : Addr} {kvs : List (Key × V)} : H b = some (.dK kvs) → EqCase K H CL rows κ g (.ref b) false
  | same {l : Addr} {g' : Str → Int} : LogAt K H CL l rows κ g' → (∀ x, objOf rows x → kNL (κ x) = true → g x = g' x) → EqCase K H CL rows κ g (.ref l) true
  | other {l : Addr} {rows' : Rows} {g' : Str → Int} {t : Str} {es es' : List Ev} : LogAt K H CL l rows' κ g' → rows.lookup t = some es → rows'.lookup t = some es' → es.length ≠ es'.length → EqCase K H CL rows κ g (.ref l) false
def spLEq (K : PySem.W.Frag) (CL : Addr) : Sp := fun vs H Q _ => ∃ (l : Addr) (y : V) (rows : Rows) (κ : Str → Kd) (g : Str → Int) (r : Bool), vs = [.ref l, y] ∧ LogAt K H CL l rows κ g ∧ EqCase K H CL rows κ g y r ∧ Q (.bl r) H
theorem ok_log_eq (F : Fun K "__eq__" "Log.__eq__" s_Log_eq f fd) (T : Gb K mg) (TL : LogC K CL) (TQ : LgQ K mg CL) : FnOk P w K mg base CX0 1 f fd ["self", "other"] (spLEq K CL) := by
  refine F.ok sc_Log_eq (fun vs H Q E h => ?_) (fun cdv A outer s H vs Q E hr h => ?_)
  · obtain ⟨l, y, rows, κ, g, r, rfl, _⟩ := h
    rfl
  · obtain ⟨l, y, rows, κ, g, r, rfl, hl, hc, k⟩ := h
    have hu := hu_of hr
    refine ⟨_, pss_one (ps_ret (pe_and (pe_callB call_isi (by rfl) T.m_isinstance PyProof.Rows.boot_isinstance (pa_cons (pv 1) (pa_cons (pe_glob (v := .ref CL) (by rfl) TQ.mgL rfl) pa_nil))) (pe_and (pe_cmpR (OwE.op_eqDD hr.units) (pe_fld (pv 0) rfl) (pe_fld (pv 1) rfl) (nomark _)) (pe_one (pe_cmpR (OwE.op_eqDD hr.units) (pe_fld (pv 0) rfl) (pe_fld (pv 1) rfl) (nomark _)))))), ?_⟩
    refine st_ret ?_
    cases hc with
    | non => exact ⟨_, rfl, _, _, _, _, false, rfl, .own _, .base .non, TQ.kN, false, rfl, iteF k⟩
    | dict hb => exact ⟨_, rfl, _, _, _, _, false, rfl, .own _, .base (.dK hb), TQ.kD, false, rfl, iteF k⟩
    | @same l2 g' h2 hgg =>
      obtain ⟨dx, ra, na, kd, fo, fi, ce, he, rs, ins, ⟨ka, a1, a2⟩, nm, kk, zs, z1, z2, z3, z4⟩ := hl.ex
      obtain ⟨dx2, ra2, na2, kd2, fo2, fi2, ce2, he2, rs2, ins2, ⟨kb, b1, b2⟩, nm2, kk2, ys, y1, y2, y3, y4⟩ := h2.ex
      refine ⟨_, rfl, _, _, _, _, true, rfl, .own _, .base (.ins ins2 TL.cl TQ.ha TQ.hn TQ.ht TQ.hm), TQ.kO, true, rfl, iteT ?_⟩
      refine ⟨_, rfl, l, CL, dx, _, _, rfl, ins, TL.cl, TL.n_rows, rfl, _, rfl, l2, CL, dx2, _, _, rfl, ins2, TL.cl, TL.n_rows, rfl, ra, ra2, ka, kb, rowD rows, rowD rows, rfl, rfl, a1, b1, fun k v hm => trw_data hl.good a2 hm, fun k v hm => trw_data hl.good b2 (valV_mem hm), true, ?_, iteT ?_⟩
      · have e1 : ka.length = kb.length := (Paired.length a2).trans (Paired.length b2).symm
        rw [e1, beq_self_eq_true, Bool.true_and]
        congr 1
        refine List.all_eq_true.mpr fun p hp => ?_
        obtain ⟨q, hq, e2, ht⟩ := trw_mem a2 (k := p.1) (v := p.2) hp
        obtain ⟨v, hv, _⟩ := (trw_val (x := q.1) b2).1 q.2 (lookup_of hl.good.nd hq)
        rw [e2, hv, Option.isSome_some, Bool.true_and]
        exact SeqAt.eqv_refl _ (row_good hl.good (List.mem_map_of_mem hq)).1
      · have ezs : zs = ys := Srt.sorted_mem z2 y2 z3 y3 fun x => (z4 x).trans (y4 x).symm
        subst ezs
        have efv : (zs.map fun x => ((Sum.inr x : Key), V.int (g' x))) = zs.map fun x => (Sum.inr x, V.int (g x)) := List.map_congr_left fun x hx => by rw [hgg x ((z4 x).mp hx).1 ((z4 x).mp hx).2]
        rw [efv] at y1
        refine ⟨_, rfl, l, CL, dx, _, _, rfl, ins, TL.cl, TL.n_first, rfl, _, rfl, l2, CL, dx2, _, _, rfl, ins2, TL.cl, TL.n_first, rfl, fi, fi2, _, _, (fun k => match k with | .inr x => .int (g x) | .inl _ => .none), (fun k => match k with | .inr x => .int (g x) | .inl _ => .none), rfl, rfl, z1, y1, ?_, ?_, ?_⟩
        · intro k v hm
          obtain ⟨x, _, e⟩ := List.mem_map.mp hm
          cases e
          exact ⟨.int _, by simp [PyData.canLay0], by simp [PyData.depth]⟩
        · intro k v hm
          obtain ⟨x, _, e⟩ := List.mem_map.mp (valV_mem hm)
          cases e
          exact ⟨.int _, by simp [PyData.canLay0], by simp [PyData.depth]⟩
        · rw [beq_self_eq_true, Bool.true_and]
          refine (congrArg (fun b => Q (V.bl b) H) (List.all_eq_true.mpr fun p hp => ?_)).mpr k
          obtain ⟨x, hx, rfl⟩ := List.mem_map.mp hp
          have hs : (valV (zs.map fun x => ((Sum.inr x : Key), V.int (g x))) (Sum.inr x)).isSome = true := by
            cases q : valV (zs.map fun x => ((Sum.inr x : Key), V.int (g x))) (Sum.inr x) with
            | some _ => rfl
            | none =>
              refine absurd ?_ (valV_not q)
              rw [List.map_map]
              exact List.mem_map.mpr ⟨x, hx, rfl⟩
          rw [hs, Bool.true_and]
          simp [PyData.eqv]
    | @other l2 rows' g' t es es' h2 ht ht' hne =>
      obtain ⟨dx, ra, na, kd, fo, fi, ce, he, rs, ins, ⟨ka, a1, a2⟩, nm, kk, zs, z1, z2, z3, z4⟩ := hl.ex
      obtain ⟨dx2, ra2, na2, kd2, fo2, fi2, ce2, he2, rs2, ins2, ⟨kb, b1, b2⟩, nm2, kk2, ys, y1, y2, y3, y4⟩ := h2.ex
      refine ⟨_, rfl, _, _, _, _, true, rfl, .own _, .base (.ins ins2 TL.cl TQ.ha TQ.hn TQ.ht TQ.hm), TQ.kO, true, rfl, iteT ?_⟩
      refine ⟨_, rfl, l, CL, dx, _, _, rfl, ins, TL.cl, TL.n_rows, rfl, _, rfl, l2, CL, dx2, _, _, rfl, ins2, TL.cl, TL.n_rows, rfl, ra, ra2, ka, kb, rowD rows, rowD rows', rfl, rfl, a1, b1, fun k v hm => trw_data hl.good a2 hm, fun k v hm => trw_data h2.good b2 (valV_mem hm), false, ?_, iteF k⟩
      congr 1
      have hall : (ka.all fun p => (valV kb p.1).isSome && PyData.eqv (rowD rows p.1) (rowD rows' p.1)) = false := by
        obtain ⟨v, hv, _⟩ := (trw_val (x := t) a2).1 es ht
        refine Bool.eq_false_iff.mpr fun z => ?_
        have z1 := List.all_eq_true.mp z _ (valV_mem hv)
        have z2 := (Bool.and_eq_true_iff.mp z1).2
        have e1 : rowOf rows t = es := by rw [rowOf, ht]; rfl
        have e2 : rowOf rows' t = es' := by rw [rowOf, ht']; rfl
        rw [rowD, rowD, e1, e2, PyData.eqv, eqvAll_len (by simpa using hne)] at z2
        cases z2
      rw [hall, Bool.and_false]
end
end Lg

namespace Lg
open PySem L2 TL
/-- a comprehension with two fors: the outer walk -/
theorem lc2_it {J : It} {n : Nat} {G : Hp → Prop} {Y : Nat → Hp → V → Hp → Prop} (w : Walk J n G Y) {g g1 : TG} {tt tt1 : TT} {wi1 : TI} {te : TE} {vs vs1 : List Nat} {σ : St} {H1 : Hp} {D : Addr} {Qd : Hp → Prop} (Pv : Nat → Hp → Prop) (h0 : Pv 0 (upd H1 D (.lst []))) (hG : ∀ i H, i ≤ n → Pv i H → G H)
    (hs : ∀ i x H H', i < n → Pv i H → Y i H x H' → g x (wipe σ vs) H' fun σ2 H2 => wipe σ2 vs = wipe σ vs ∧ tt σ2 H2 fun b H3 => if b = true then wi1 σ2 H3 fun J1 H4 => ∃ W1 : Nat → Nat → Hp → Prop, (∃ m, W1 0 m H4) ∧ ∀ j k H, W1 j k H →
      (J1.stop j H ∧ Pv (i + 1) H) ∨ (J1.go j H ∧ ∃ Nx1 : Hp → Prop, (∀ H', Nx1 H' → ∃ k', k' < k ∧ W1 (j + 1) k' H') ∧ ∀ x H', J1.yld j H x H' → g1 x (wipe σ2 vs1) H' fun σ3 H5 => wipe σ3 vs1 = wipe σ2 vs1 ∧ tt1 σ3 H5 fun b H6 =>
        if b = true then te σ3 H6 fun y H7 => ∃ acc, H7 D = some (.lst acc) ∧ acc.length < sizeLine ∧ Nx1 (upd H7 D (.lst (acc ++ [y]))) else Nx1 H6) else Pv (i + 1) H3) (hd : ∀ H, Pv n H → Qd H) :
    ∃ W : Nat → Nat → Hp → Prop, (∃ m, W 0 m (upd H1 D (.lst []))) ∧ ∀ i m H, W i m H →
      (J.stop i H ∧ Qd H) ∨ (J.go i H ∧ ∃ Nx : Hp → Prop, (∀ H', Nx H' → ∃ m', m' < m ∧ W (i + 1) m' H') ∧ ∀ x H', J.yld i H x H' → g x (wipe σ vs) H' fun σ2 H2 => wipe σ2 vs = wipe σ vs ∧ tt σ2 H2 fun b H3 => if b = true then wi1 σ2 H3 fun J1 H4 => ∃ W1 : Nat → Nat → Hp → Prop, (∃ m, W1 0 m H4) ∧ ∀ j k H, W1 j k H →
      (J1.stop j H ∧ Nx H) ∨ (J1.go j H ∧ ∃ Nx1 : Hp → Prop, (∀ H', Nx1 H' → ∃ k', k' < k ∧ W1 (j + 1) k' H') ∧ ∀ x H', J1.yld j H x H' → g1 x (wipe σ2 vs1) H' fun σ3 H5 => wipe σ3 vs1 = wipe σ2 vs1 ∧ tt1 σ3 H5 fun b H6 =>
        if b = true then te σ3 H6 fun y H7 => ∃ acc, H7 D = some (.lst acc) ∧ acc.length < sizeLine ∧ Nx1 (upd H7 D (.lst (acc ++ [y]))) else Nx1 H6) else Nx H3) := by
  refine ⟨fun i m H => m = n - i ∧ i ≤ n ∧ Pv i H, ⟨n, by simp, Nat.zero_le _, h0⟩, ?_⟩
  rintro i m H ⟨rfl, hi, p⟩
  have q := hG i H hi p
  by_cases hlt : i < n
  · exact .inr ⟨w.goes i H hlt q, Pv (i + 1), fun H' p' => ⟨n - (i + 1), by omega, rfl, hlt, p'⟩, fun x H' y => hs i x H H' hlt p (w.yields i H x H' hlt q y)⟩
  · have e : i = n := by omega
    subst e
    exact .inl ⟨w.stops H q, hd H p⟩
/-- the inner walk -/
theorem in1_it {J1 : It} {n : Nat} {G : Hp → Prop} {Y : Nat → Hp → V → Hp → Prop} (w : Walk J1 n G Y) {g1 : TG} {tt1 : TT} {te : TE} {vs1 : List Nat} {σ2 : St} {H4 : Hp} {D : Addr} {Nx : Hp → Prop} (Pv : Nat → Hp → Prop) (h0 : Pv 0 H4) (hG : ∀ i H, i ≤ n → Pv i H → G H)
    (hs : ∀ i x H H', i < n → Pv i H → Y i H x H' → g1 x (wipe σ2 vs1) H' fun σ3 H5 => wipe σ3 vs1 = wipe σ2 vs1 ∧ tt1 σ3 H5 fun b H6 => if b = true then te σ3 H6 fun y H7 => ∃ acc, H7 D = some (.lst acc) ∧ acc.length < sizeLine ∧ Pv (i + 1) (upd H7 D (.lst (acc ++ [y]))) else Pv (i + 1) H6)
    (hd : ∀ H, Pv n H → Nx H) :
    ∃ W1 : Nat → Nat → Hp → Prop, (∃ m, W1 0 m H4) ∧ ∀ j k H, W1 j k H →
      (J1.stop j H ∧ Nx H) ∨ (J1.go j H ∧ ∃ Nx1 : Hp → Prop, (∀ H', Nx1 H' → ∃ k', k' < k ∧ W1 (j + 1) k' H') ∧ ∀ x H', J1.yld j H x H' → g1 x (wipe σ2 vs1) H' fun σ3 H5 => wipe σ3 vs1 = wipe σ2 vs1 ∧ tt1 σ3 H5 fun b H6 =>
        if b = true then te σ3 H6 fun y H7 => ∃ acc, H7 D = some (.lst acc) ∧ acc.length < sizeLine ∧ Nx1 (upd H7 D (.lst (acc ++ [y]))) else Nx1 H6) := by
  refine ⟨fun i m H => m = n - i ∧ i ≤ n ∧ Pv i H, ⟨n, by simp, Nat.zero_le _, h0⟩, ?_⟩
  rintro i m H ⟨rfl, hi, p⟩
  have q := hG i H hi p
  by_cases hlt : i < n
  · exact .inr ⟨w.goes i H hlt q, Pv (i + 1), fun H' p' => ⟨n - (i + 1), by omega, rfl, hlt, p'⟩, fun x H' y => hs i x H H' hlt p (w.yields i H x H' hlt q y)⟩
  · have e : i = n := by omega
    subst e
    exact .inl ⟨w.stops H q, hd H p⟩
theorem yes_thenA {σ : St} {H : Hp} {A B : Hp → Prop} (h : A H) : tYes σ H (fun b H3 => if b = true then A H3 else B H3) := by
  show if true = true then A H else B H
  exact iteT h
/-- an event's name and place -/
def PrAt (K : PySem.W.Frag) (H : Hp) (v : V) (q : Str × Nat) : Prop := ∃ t, v = .ref t ∧ SqT K H t [.str q.1, .int (q.2 : Nat)]
theorem PrAt.step {K : PySem.W.Frag} {nt : Bool} {l : List Addr} {H H' : Hp} {v : V} {q : Str × Nat} (s : StepB nt l H H') (h : PrAt K H v q) : PrAt K H' v q := let ⟨t, e, h⟩ := h; ⟨t, e, sqt_step s h⟩
theorem prs_step {K : PySem.W.Frag} {nt : Bool} {l : List Addr} {H H' : Hp} (s : StepB nt l H H') : ∀ {xs : List V} {qs : List (Str × Nat)}, Paired (PrAt K H) xs qs → Paired (PrAt K H') xs qs
  | _, _, .nil => .nil
  | _, _, .cons h hs => .cons (h.step s) (prs_step s hs)
def evsRow (p : Str × List Ev) : List (Str × Nat) := (List.range p.2.length).map fun i => (p.1, i)
def evsOf (rows : Rows) : List (Str × Nat) := rows.flatMap evsRow
theorem evs_len (rows : Rows) : (evsOf rows).length = (rows.map (·.2)).flatten.length := by
  induction rows with
  | nil => rfl
  | cons p r ih =>
    unfold evsOf at ih ⊢
    rw [List.flatMap_cons, List.length_append, ih, List.map_cons, List.flatten_cons, List.length_append, evsRow, List.length_map, List.length_range]
theorem evs_take {rows : Rows} {j : Nat} {p : Str × List Ev} (hp : rows[j]? = some p) : evsOf (rows.take (j + 1)) = evsOf (rows.take j) ++ evsRow p := by
  unfold evsOf
  rw [List.take_add_one, hp, List.flatMap_append]
  simp
section
variable {P : Program} {w : World} {K : PySem.W.Frag} {mg : Str → Option Value} {base : Heap} {f : Addr} {fd : FuncData} {CL : Addr}
abbrev s_Log_events : Stmt := inClass (top 23) 4
theorem sc_Log_events : FnScope ["self", "thread", "at"] ["self"] (defScope s_Log_events) := ⟨rfl, rfl, rfl, by decide +kernel, rfl, by decide +kernel, by decide +kernel⟩
def spEvs (K : PySem.W.Frag) (CL : Addr) : Sp := fun vs H Q _ => ∃ (l : Addr) (rows : Rows) (κ : Str → Kd) (g : Str → Int), vs = [.ref l] ∧ LogAt K H CL l rows κ g ∧ ∀ H' p xs, Same H H' → H p = none → H' p = some (.lst xs) → Paired (PrAt K H') xs (evsOf rows) → Q (.ref p) H'
theorem ok_events (F : Fun K "events" "Log.events" s_Log_events f fd) (T : Gb K mg) (TL : LogC K CL) : FnOk P w K mg base CX0 1 f fd ["self"] (spEvs K CL) := by
  refine F.ok sc_Log_events (fun vs H Q E h => ?_) (fun cdv A outer s H vs Q E hr h => ?_)
  · obtain ⟨l, rows, κ, g, rfl, _⟩ := h
    rfl
  · obtain ⟨l, rows, κ, g, rfl, hl, k⟩ := h
    have hu := hu_of hr
    refine ⟨_, pss_one (ps_ret (pe_lc2 (own := [("thread", 1), ("at", 2)]) (vs1 := [2]) rfl sc_Log_events.nd (pi_tup (pe_fld (pv 0) rfl)) (blkOk_by (own := [("thread", 1), ("at", 2)]) (N := ["self", "thread", "at"]) (sc := defScope s_Log_events) (by decide +kernel)) (by decide) (fun _ _ _ _ _ => (pg_name (i := 1) sc_Log_events.nd rfl (Or.inl rfl))) (fun _ _ _ _ _ => pts_nil) (fun _ _ _ _ _ => (pi_range1 (by rfl) T.m_range (pa_cons (pe_callB (Kx.lenK (K := K)) (by rfl) T.m_len PySem.boot_len (pa_cons (pe_dget hu (Kx.fldK (K := K) (pv 0) rfl) (pv 1) (fun _ _ => rfl)) pa_nil)) pa_nil))) (fun _ _ _ _ _ => (pg_name (i := 2) sc_Log_events.nd rfl (Or.inl rfl))) (fun _ _ _ _ _ => pts_nil) (fun _ _ _ _ _ => (pe_tup (pa_cons (pv 1) (pa_cons (pv 2) pa_nil)))))), ?_⟩
    refine st_ret ?_
    obtain ⟨dx, ra, na, kd, fo, fi, ce, he, rs, ins, ⟨kvs, r1, r2⟩, nm, _⟩ := hl.ex
    refine ⟨_, rfl, l, CL, dx, _, _, rfl, ins, TL.cl, TL.n_names, rfl, na, rfl, ⟨_, nm⟩, fun D hD => ?_⟩
    have hsz := hl.good.size
    have hpre : ∀ (j : Nat) (p : Str × List Ev), rows[j]? = some p → ∀ i, i ≤ p.2.length → (evsOf (rows.take j)).length + i ≤ 40 := fun j p hp i hi => by
      have := cnt_le hp hi hsz
      unfold cnt at this
      rw [evs_len]
      exact this
    refine lc2_it (walk_tup (K := K) (a := na) (xs := rows.map fun p => V.str p.1)) (AccP H D fun j acc H' => Paired (PrAt K H') acc (evsOf (rows.take j))) (acc0 hD .nil) (fun i H' _ q => sqt_same q.1 nm) ?_ ?_
    · rintro j x H1 H' hj ⟨s1, acc, hD1, hacc⟩ ⟨rfl, hx⟩
      rw [List.getElem?_map] at hx
      cases hp : rows[j]? with
      | none => rw [hp] at hx; cases hx
      | some p =>
        rw [hp] at hx
        cases hx
        refine ⟨rfl, ?_⟩
        refine yes_thenA ?_
        obtain ⟨v, hv, ar, xs, rfl, har, hpp⟩ := (trw_val (x := p.1) (trw_step (nt := true) (l := []) (.of s1) r2)).1 p.2 (lookup_of hl.good.nd (List.mem_of_getElem? hp))
        have hlx : xs.length = p.2.length := Paired.length hpp
        have hrl := hl.good.rlen (List.mem_of_getElem? hp)
        refine ⟨_, rfl, l, CL, dx, _, _, rfl, s1 _ _ ins, TL.cl, TL.n_rows, rfl, _, rfl, ra, _, rfl, by rw [← hv]; exact DGet.k (k := Sum.inr p.1) (s1 _ _ r1), ar, xs, rfl, .inr har, ?_⟩
        refine ⟨_, rfl, by omega, by omega, ?_⟩
        refine in1_it (walk_range (lo := 0)) (AccP H D fun i acc H' => Paired (PrAt K H') acc (evsOf (rows.take j) ++ (List.range i).map fun i => (p.1, i))) ⟨s1, acc, hD1, by simpa using hacc⟩ (fun _ _ _ _ => trivial) ?_ ?_
        · rintro i x H2 H3 hi ⟨s2, acc2, hD2, hacc2⟩ ⟨rfl, rfl⟩
          have hi2 : i < p.2.length := by
            rw [hlx] at hi
            omega
          refine ⟨rfl, yes_then ?_⟩
          refine ⟨_, rfl, _, rfl, by show 2 ≤ sizeLine; decide, fun q hq => ?_⟩
          have s3 : Same H3 (upd H3 q (.tup [.str p.1, .int (0 + (i : Nat))])) := same_new hq
          have t3 : (upd H3 q (.tup [.str p.1, .int (0 + (i : Nat))])) q = some (.tup [.str p.1, .int (0 + (i : Nat))]) := upd_same
          generalize upd H3 q (.tup [.str p.1, .int (0 + (i : Nat))]) = H4 at s3 t3 ⊢
          refine acc_put hD (s2.trans s3) (s3 _ _ hD2) ?_ ?_
          · have e1 := Paired.length hacc2
            rw [List.length_append, List.length_map, List.length_range] at e1
            have e2 := hpre j p hp i (Nat.le_of_lt hi2)
            exact Nat.lt_of_le_of_lt (show acc2.length ≤ 1000 by omega) (by decide)
          · have st : Step [D] H3 (upd H4 D (.lst (acc2 ++ [.ref q]))) := (StepB.of s3).trans (.put (s3 _ _ hD2) rfl)
            rw [List.range_succ, List.map_append, ← List.append_assoc]
            refine paired_push (prs_step st hacc2) ⟨q, rfl, ?_⟩
            have e3 : (0 + (i : Int)) = ((i : Nat) : Int) := by omega
            rw [e3] at t3
            exact sqt_step (StepB.put (n := true) (s3 _ _ hD2) rfl) (SqT.of t3)
        · rintro H2 ⟨s2, acc2, hD2, hacc2⟩
          refine ⟨s2, acc2, hD2, ?_⟩
          dsimp only at hacc2 ⊢
          rw [evs_take hp]
          have e4 : ((xs.length : Nat) : Int).toNat = p.2.length := by rw [hlx]; simp
          simpa [evsRow, hlx] using hacc2
    · rintro H2 ⟨s2, acc, hD2, hacc⟩
      rw [List.length_map, List.take_of_length_le (Nat.le_refl _)] at hacc
      exact k H2 D acc s2 hD hD2 hacc
end
end Lg

namespace Lg
open PySem L2 TL
def WellAt (H : Hp) (a : Addr) : Prop := ∃ n k : Int, H a = some (.lst [.int n, .int k])
theorem cnt_take {rows : Rows} {i : Nat} {p : Str × List Ev} (hp : rows[i]? = some p) : ((rows.take i).map (·.2)).flatten.length + p.2.length ≤ (rows.map (·.2)).flatten.length := by
  have e : rows = rows.take i ++ p :: rows.drop (i + 1) := by
    obtain ⟨hlt, e⟩ := List.getElem?_eq_some_iff.mp hp
    rw [← e, ← List.drop_eq_getElem_cons hlt, List.take_append_drop]
  have e2 : (rows.map (·.2)).flatten.length = ((rows.take i).map (·.2)).flatten.length + (p.2.length + ((rows.drop (i + 1)).map (·.2)).flatten.length) := by
    conv => lhs; rw [e]
    rw [List.map_append, List.flatten_append, List.length_append, List.map_cons, List.flatten_cons, List.length_append]
  omega
theorem paired_app {α β : Type} {R : α → β → Prop} {as cs : List α} {bs ds : List β} (h : Paired R as bs) (k : Paired R cs ds) : Paired R (as ++ cs) (bs ++ ds) := by
  induction h with
  | nil => exact k
  | cons h _ ih => exact .cons h ih
section
variable {P : Program} {w : World} {K : PySem.W.Frag} {mg : Str → Option Value} {base : Heap} {f : Addr} {fd : FuncData}
abbrev s_law_well : Stmt := top 28
theorem sc_law_well : FnScope ["_law_cell"] ["_law_cell"] (defScope s_law_well) := ⟨rfl, rfl, rfl, by decide +kernel, rfl, by decide +kernel, by decide +kernel⟩
def spWell : Sp := fun vs H Q _ => ∃ n : Int, vs = [.int n] ∧ ∀ a, H a = none → Q (.ref a) (upd H a (.lst [.int n, .int 0]))
theorem ok_law_well (F : Fun K "_law_well" "_law_well" s_law_well f fd) (T : Gb K mg) : FnOk P w K mg base CX0 1 f fd ["_law_cell"] spWell := by
  refine F.ok sc_law_well (fun vs H Q E h => ?_) (fun cdv A outer s H vs Q E hr h => ?_)
  · obtain ⟨n, rfl, _⟩ := h
    rfl
  · obtain ⟨n, rfl, k⟩ := h
    refine ⟨_, pss_one (ps_ret (pe_lst (pa_cons (pe_callTy call_int1 (by rfl) T.m_int PyProof.Rows.boot_int (pa_cons (pv 0) pa_nil)) (pa_cons pe_int pa_nil)))), ?_⟩
    exact ⟨_, rfl, .inl ⟨n, rfl, by show 2 ≤ sizeLine; decide, fun a ha => k a ha⟩⟩
abbrev s_law_draw : Stmt := top 29
theorem sc_law_draw : FnScope ["_law_well_here", "_law_many", "_law_digit", "_law_number", "_law_more"] ["_law_well_here", "_law_many"] (defScope s_law_draw) := ⟨rfl, rfl, rfl, by decide +kernel, rfl, by decide +kernel, by decide +kernel⟩
def spDraw : Sp := fun vs H Q _ => ∃ (a : Addr) (m : Int), vs = [.ref a, .int m] ∧ WellAt H a ∧ 0 < m ∧ m ≤ 1000 ∧ ∀ (d n k : Int), 0 ≤ d → d < m → Q (.int d) (upd H a (.lst [.int n, .int k]))
theorem ok_law_draw (F : Fun K "_law_draw" "_law_draw" s_law_draw f fd) (T : Gb K mg) : FnOk P w K mg base CX0 1 f fd ["_law_well_here", "_law_many"] spDraw := by
  refine F.ok sc_law_draw (fun vs H Q E h => ?_) (fun cdv A outer s H vs Q E hr h => ?_)
  · obtain ⟨a, m, rfl, _⟩ := h
    rfl
  · obtain ⟨a, m, rfl, ⟨n, c, ha⟩, hm0, hm1, k⟩ := h
    refine ⟨_, pss_cons (ps_if (pt_cmpR op_ge (pe_ix ix_list (pv 0) pe_int (fun _ _ => rfl)) (pe_op op_pow pe_int pe_int) (nomark _)) (pss_cons (ps_set (i := 2) sc_law_draw.nd rfl (Or.inl rfl) (pe_op op_mod (pe_callTy call_int1 (by rfl) T.m_int PyProof.Rows.boot_int (pa_cons (pe_ix ix_list (pv 0) pe_int (fun _ _ => rfl)) pa_nil)) (pv 1)))
    (pss_cons (ps_asg (pe_op op_fdivW (pe_ix ix_list (pv 0) pe_int (fun _ _ => rfl)) (pv 1)) (pg_sub (pv 0) pe_int set_list))
    (pss_one (ps_ret (pv 2))))) (pss_nil))
    (pss_cons (ps_asg (pe_op op_add (pe_ix ix_list (pv 0) pe_int (fun _ _ => rfl)) pe_int) (pg_sub (pv 0) pe_int set_list))
    (pss_cons (ps_set (i := 3) sc_law_draw.nd rfl (Or.inl rfl) (pe_op op_mod (pe_callTy call_int1 (by rfl) T.m_int PyProof.Rows.boot_int (pa_cons (pe_op op_mul (pe_callTy call_int1 (by rfl) T.m_int PyProof.Rows.boot_int (pa_cons (pe_op op_add (pe_op op_add (pe_op op_mod (pe_callTy call_int1 (by rfl) T.m_int PyProof.Rows.boot_int (pa_cons (pe_ix ix_list (pv 0) pe_int (fun _ _ => rfl)) pa_nil)) pe_int) (pe_op op_mul pe_int (pe_ix ix_list (pv 0) pe_int (fun _ _ => rfl)))) pe_int) pa_nil)) pe_int) pa_nil)) pe_int))
    (pss_cons (ps_set (i := 4) sc_law_draw.nd rfl (Or.inl rfl) (pe_op op_mod (pe_callTy call_int1 (by rfl) T.m_int PyProof.Rows.boot_int (pa_cons (pe_op op_fdivW (pe_ix ix_list (pv 0) pe_int (fun _ _ => rfl)) pe_int) pa_nil)) pe_int))
    (pss_cons (ps_set (i := 3) sc_law_draw.nd rfl (Or.inl rfl) (pe_op op_mod (pe_callTy call_int1 (by rfl) T.m_int PyProof.Rows.boot_int (pa_cons (pe_op op_mul (pv 3) (pe_op op_add (pe_op op_add (pe_op op_fdivW (pv 3) pe_int) pe_int) (pv 4))) pa_nil)) pe_int))
    (pss_one (ps_ret (pe_op op_mod (pe_callTy call_int1 (by rfl) T.m_int PyProof.Rows.boot_int (pa_cons (pe_op op_fdivW (pe_op op_mod (pe_callTy call_int1 (by rfl) T.m_int PyProof.Rows.boot_int (pa_cons (pe_op op_mul (pv 3) (pe_op op_add (pe_op op_fdivW (pv 3) pe_int) pe_int)) pa_nil)) pe_int) pe_int) pa_nil)) (pv 1)))))))), ?_⟩
    have hmw : ∀ i : Int, CDivW i m := fun i => wide_div (b := 30) hm0 (by omega) (by decide) (by decide)
    have h0 : ∀ (H1 : Hp) (n c : Int), H1 a = some (.lst [.int n, .int c]) → SqL K H1 a [.int n, .int c] := fun H1 n c h => SqL.of h
    refine st_if ?_
    refine ⟨_, rfl, a, _, _, _, rfl, rfl, h0 _ _ _ ha, atI_nat (j := 0) rfl, 10, 18, rfl, rfl, ⟨by decide, by decide, by decide⟩, _, _, rfl, rfl, _, rfl, ?_⟩
    refine ite2 (fun _ => ?_) (fun _ => ?_)
    · refine st_asg ?_
      refine ⟨_, rfl, a, _, _, _, rfl, rfl, h0 _ _ _ ha, atI_nat (j := 0) rfl, .inl ⟨n, rfl, _, rfl, _, _, rfl, rfl, hm0, ?_⟩⟩
      refine st_asgG ?_
      refine ⟨_, rfl, a, _, _, _, rfl, rfl, h0 _ _ _ ha, atI_nat (j := 0) rfl, _, rfl, _, _, rfl, rfl, hmw n, _, rfl, a, _, _, 0, rfl, rfl, ha, rfl, ?_⟩
      refine ⟨_, rfl, k _ _ _ (Int.emod_nonneg _ (by omega)) (Int.emod_lt_of_pos _ hm0)⟩
    · refine st_nx ?_
      dsimp only
      refine st_asgG ?_
      refine ⟨_, rfl, a, _, _, _, rfl, rfl, h0 _ _ _ ha, atI_nat (j := 1) rfl, _, _, rfl, rfl, _, rfl, a, _, _, 1, rfl, rfl, ha, rfl, ?_⟩
      have ha1 : (upd H a (.lst [.int n, .int (c + 1)])) a = some (.lst [.int n, .int (c + 1)]) := upd_same
      have kq : ∀ d : Int, 0 ≤ d → d < m → Q (.int d) (upd H a (.lst [.int n, .int (c + 1)])) := fun d h1 h2 => k d _ _ h1 h2
      have hq1 := h0 _ _ _ ha1
      show tSeq _ _ _ _ (upd H a (.lst [.int n, .int (c + 1)]))
      generalize upd H a (.lst [.int n, .int (c + 1)]) = H1 at ha1 kq hq1 ⊢
      refine st_asg ?_
      refine ⟨_, rfl, a, _, _, _, rfl, rfl, hq1, atI_nat (j := 0) rfl, .inl ⟨n, rfl, _, _, rfl, rfl, (by show (0 : Int) < 2147483629; decide), _, rfl, a, _, _, _, rfl, rfl, hq1, atI_nat (j := 1) rfl, _, _, rfl, rfl, .inl ⟨by decide, by decide⟩, _, _, rfl, rfl, _, _, rfl, rfl, .inl ⟨_, rfl, _, _, rfl, rfl, .inr ⟨by decide, by decide⟩, .inl ⟨_, rfl, _, _, rfl, rfl, (by show (0 : Int) < 2147483647; decide), ?_⟩⟩⟩⟩
      dsimp only
      have b1 := Int.emod_nonneg ((n % 2147483629 + 60013 * (c + 1) + 11) * 48271) (show (2147483647 : Int) ≠ 0 by decide)
      have b2 := Int.emod_lt_of_pos ((n % 2147483629 + 60013 * (c + 1) + 11) * 48271) (show (0 : Int) < 2147483647 by decide)
      generalize ((n % 2147483629 + 60013 * (c + 1) + 11) * 48271) % 2147483647 = x1 at b1 b2 ⊢
      refine st_asg ?_
      refine ⟨_, rfl, a, _, _, _, rfl, rfl, hq1, atI_nat (j := 0) rfl, _, _, rfl, rfl, wide_div (b := 31) (by decide) (by decide) (by decide) (by decide), .inl ⟨_, rfl, _, _, rfl, rfl, (by show (0 : Int) < 9973; decide), ?_⟩⟩
      dsimp only
      generalize n / 2147483629 % 9973 = x2
      refine st_asg ?_
      refine ⟨_, rfl, _, rfl, _, _, rfl, rfl, wide_div (b := 31) (by decide) (by decide) (by decide) (by decide), _, _, rfl, rfl, _, rfl, _, _, rfl, rfl, _, _, rfl, rfl, .inl ⟨by omega, by omega⟩, .inl ⟨_, rfl, _, _, rfl, rfl, (by show (0 : Int) < 2147483587; decide), ?_⟩⟩
      dsimp only
      have b3 := Int.emod_nonneg (x1 * (x1 / 1013 + 40692 + x2)) (show (2147483587 : Int) ≠ 0 by decide)
      have b4 := Int.emod_lt_of_pos (x1 * (x1 / 1013 + 40692 + x2)) (show (0 : Int) < 2147483587 by decide)
      generalize x1 * (x1 / 1013 + 40692 + x2) % 2147483587 = x3 at b3 b4 ⊢
      refine st_ret ?_
      refine ⟨_, rfl, _, rfl, _, _, rfl, rfl, wide_div (b := 31) (by decide) (by decide) (by decide) (by decide), _, _, rfl, rfl, _, _, rfl, rfl, .inl ⟨by omega, by omega⟩, .inl ⟨_, rfl, _, _, rfl, rfl, (by show (0 : Int) < 2147483563; decide), _, _, rfl, rfl, wide_div (b := 31) (by decide) (by decide) (by decide) (by decide), .inl ⟨_, rfl, _, rfl, _, _, rfl, rfl, hm0, ?_⟩⟩⟩
      exact kq _ (Int.emod_nonneg _ (by omega)) (Int.emod_lt_of_pos _ hm0)
abbrev s_law_one : Stmt := top 30
theorem sc_law_one : FnScope ["_law_well_here", "_law_some"] ["_law_well_here", "_law_some"] (defScope s_law_one) := ⟨rfl, rfl, rfl, by decide +kernel, rfl, by decide +kernel, by decide +kernel⟩
def spOne (K : PySem.W.Frag) : Sp := fun vs H Q _ => ∃ (a b : Addr) (xs : List V), vs = [.ref a, .ref b] ∧ WellAt H a ∧ SqL K H b xs ∧ b ≠ a ∧ 0 < xs.length ∧ xs.length ≤ 1000 ∧ ∀ (x : V) (i : Nat) (n k : Int), xs[i]? = some x → Q x (upd H a (.lst [.int n, .int k]))
theorem ok_law_one (F : Fun K "_law_one" "_law_one" s_law_one f fd) (T : Gb K mg) (cDraw : C0 P w K mg base 1 "_law_draw" ["_law_well_here", "_law_many"] spDraw) : FnOk P w K mg base CX0 2 f fd ["_law_well_here", "_law_some"] (spOne K) := by
  obtain ⟨_, _, cDraw⟩ := cDraw
  refine F.ok sc_law_one (fun vs H Q E h => ?_) (fun cdv A outer s H vs Q E hr h => ?_)
  · obtain ⟨a, b, xs, rfl, _⟩ := h
    rfl
  · obtain ⟨a, b, xs, rfl, hw, hb, hne, hl0, hl1, k⟩ := h
    refine ⟨_, pss_one (ps_ret (pe_ix ix_list (pv 1) (pe_call cDraw.ok (hr.mono (by decide)) (by rfl) cDraw.mg cDraw.kp cDraw.bd .nil pass0 (pa_cons (pv 0) (pa_cons (pe_callB call_len_seq (by rfl) T.m_len PySem.boot_len (pa_cons (pv 1) pa_nil)) pa_nil))) (fun _ _ => rfl))), ?_⟩
    refine st_ret ?_
    refine ⟨_, rfl, _, rfl, _, rfl, b, xs, rfl, .inl hb, a, _, rfl, hw, by omega, by omega, fun d n c h0 h1 => ?_⟩
    obtain ⟨i, rfl⟩ := Int.eq_ofNat_of_zero_le h0
    have hi : i < xs.length := by omega
    have hb' : SqL K (upd H a (.lst [.int n, .int c])) b xs := by
      rcases hb with (hb | ⟨o, hb⟩) | hb
      · exact .inl (.inl (by rw [upd_ne hne]; exact hb))
      · exact .inl (.inr ⟨o, by rw [upd_ne hne]; exact hb⟩)
      · exact .inr hb
    exact ⟨b, xs, _, xs[i], rfl, rfl, hb', atI_nat (by simp [hi]), k _ i n c (by simp [hi])⟩
abbrev s_law_words : Stmt := top 31
theorem sc_law_words : FnScope ["_law_found"] [] (defScope s_law_words) := ⟨rfl, rfl, rfl, by decide +kernel, rfl, by decide +kernel, by decide +kernel⟩
abbrev drawWords : List Str := ["read", "read", "write", "write", "swap", "lock", "share", "unlock", "unlock", "up", "down", "step", "fork", "join", "end"]
def spWords : Sp := fun vs H Q _ => vs = [] ∧ ∀ H' p, Same H H' → H p = none → H' p = some (.lst (drawWords.map V.str)) → Q (.ref p) H'
theorem ok_law_words (F : Fun K "_law_words" "_law_words" s_law_words f fd) (T : Gb K mg) : FnOk P w K mg base CX0 1 f fd [] spWords := by
  refine F.ok sc_law_words (fun vs H Q E h => ?_) (fun cdv A outer s H vs Q E hr h => ?_)
  · obtain ⟨rfl, _⟩ := h
    rfl
  · obtain ⟨rfl, k⟩ := h
    refine ⟨_, pss_cons (ps_set (i := 0) sc_law_words.nd rfl (Or.inl rfl) (pe_lst (pa_cons pe_str (pa_cons pe_str (pa_cons pe_str (pa_cons pe_str (pa_cons pe_str (pa_cons pe_str (pa_cons pe_str (pa_cons pe_str (pa_cons pe_str pa_nil)))))))))))
    (pss_one (ps_ret (pe_op op_cat (pv 0) (pe_lst (pa_cons pe_str (pa_cons pe_str (pa_cons pe_str (pa_cons pe_str (pa_cons pe_str (pa_cons pe_str pa_nil)))))))))), ?_⟩
    refine st_asg ?_
    refine ⟨by show 9 ≤ sizeLine; decide, fun p hp => ?_⟩
    refine st_ret ?_
    refine ⟨_, rfl, by show 6 ≤ sizeLine; decide, fun q hq => ?_⟩
    refine ⟨p, q, _, _, rfl, rfl, same_new hq _ _ upd_same, upd_same, by show 9 + 6 ≤ sizeLine; decide, fun r hr' => ?_⟩
    exact k _ r (((same_new hp).trans (same_new hq)).trans (same_new hr')) (((same_new hp).trans (same_new hq)).free hr') upd_same
abbrev s_law_all : Stmt := top 32
theorem sc_law_all : FnScope ["_law_rows", "_law_found", "_law_row"] ["_law_rows"] (defScope s_law_all) := ⟨rfl, rfl, rfl, by decide +kernel, rfl, by decide +kernel, by decide +kernel⟩
def spAll (K : PySem.W.Frag) : Sp := fun vs H Q _ => ∃ (ra : Addr) (rows : Rows), vs = [.ref ra] ∧ RowsAt K H ra rows ∧ rows.length ≤ 50 ∧ (rows.map (·.2)).flatten.length ≤ 500 ∧
  ∀ H' p xs, Step [] H H' → H' p = some (.lst xs) → Paired (EvAt K H') xs (rows.map (·.2)).flatten → Q (.ref p) H'
theorem ok_law_all (F : Fun K "_law_all" "_law_all" s_law_all f fd) (T : Gb K mg) : FnOk P w K mg base CX0 1 f fd ["_law_rows"] (spAll K) := by
  refine F.ok sc_law_all (fun vs H Q E h => ?_) (fun cdv A outer s H vs Q E hr h => ?_)
  · obtain ⟨ra, rows, rfl, _⟩ := h
    rfl
  · obtain ⟨ra, rows, rfl, ⟨kvs, r1, r2⟩, hl, hsz, k⟩ := h
    refine ⟨_, pss_cons (ps_set (i := 1) sc_law_all.nd rfl (Or.inl rfl) (pe_lst pa_nil))
    (pss_cons (ps_lock (ps_for PassesOwn.never rfl (pi_values (pv 0)) (pg_name (i := 2) sc_law_all.nd rfl (Or.inl rfl))
      (pss_one (ps_set (i := 1) sc_law_all.nd rfl (Or.inl rfl) (pe_op op_cat (pv 1) (pe_callTy call_list_of (by rfl) T.m_list (by decide +kernel) (pa_cons (pv 2) pa_nil)))))))
    (pss_one (ps_ret (pv 1)))), ?_⟩
    refine st_asg ?_
    refine ⟨by show 0 ≤ sizeLine; decide, fun p0 hp0 => ?_⟩
    have s0 : Same H (upd H p0 (.lst [])) := same_new hp0
    have q0 : (upd H p0 (.lst [])) p0 = some (.lst []) := upd_same
    generalize upd H p0 (.lst []) = H0 at s0 q0 ⊢
    have r3 := s0 _ _ r1
    have hlen : kvs.length = rows.length := Paired.length r2
    refine ⟨ra, _, r3, trivial, fun od => ?_⟩
    have nr : p0 ≠ ra := ne_kind q0 r3 (by intro z; cases z)
    have l0 : Step [ra] H0 (upd H0 ra (.frz od (.dK kvs))) := .put r3 rfl
    have r4 : Paired (RwsR K (upd H0 ra (.frz od (.dK kvs)))) kvs rows := rws_step l0 (by simpa using nol_dK r3) (rws_step (nt := true) (l := []) (.of s0) (by simp) r2)
    have f1 : (upd H0 ra (.frz od (.dK kvs))) ra = some (.frz od (.dK kvs)) := upd_same
    have q1 : (upd H0 ra (.frz od (.dK kvs))) p0 = some (.lst []) := by rw [upd_ne nr]; exact q0
    refine ⟨_, rfl, ra, od, kvs, rfl, f1, ?_⟩
    refine for_it (walk_values (d := ra) (o := od) (kvs := kvs)) (fun i σ H' => ∃ (p : Addr) (xs : List V) (w2 : Option V), σ = [some (.ref ra), some (.ref p), w2] ∧ Same (upd H0 ra (.frz od (.dK kvs))) H' ∧ H' p = some (.lst xs) ∧ p ≠ ra ∧ Paired (EvAt K H') xs ((rows.take i).map (·.2)).flatten)
      ⟨p0, [], _, rfl, Same.refl _, q1, nr, .nil⟩ (fun i σ H' _ ⟨_, _, _, _, s, _⟩ => s _ _ f1) ?_ ?_
    · rintro i x σ H1 H2 hi ⟨p, xs, w2, rfl, s1, hp, np, hx⟩ ⟨rfl, key, hkv⟩
      obtain ⟨pr, hpr, _, a, ys, e3, ha, hpp⟩ := paired_at r4 hkv
      have e3 : x = .ref a := e3
      subst e3
      refine ⟨_, rfl, _, rfl, a, ys, rfl, ha.imp (fun q => s1.seq q) (fun q => sqt_same s1 q), fun b hb => ?_⟩
      have s2 : Same H2 (upd H2 b (.lst ys)) := same_new hb
      refine ⟨p, b, xs, ys, rfl, rfl, s2 _ _ hp, upd_same, ?_, fun c hc => ?_⟩
      · have e1 := Paired.length hx
        have e2 := Paired.length hpp
        have e4 := cnt_take hpr
        exact Nat.le_trans (show xs.length + ys.length ≤ 1000 by omega) (by decide)
      · have s3 := s2.trans (same_new (o := .lst (xs ++ ys)) hc)
        refine ⟨c, xs ++ ys, _, rfl, s1.trans s3, upd_same, ne_none ((s1.trans s2) _ _ f1) hc, ?_⟩
        rw [List.take_add_one, hpr, List.map_append, List.flatten_append]
        have e5 : (List.map (fun x => x.snd) (some pr).toList).flatten = pr.2 := by simp
        rw [e5]
        exact paired_app (evs_same s3 hx) (evs_same (s1.trans s3) hpp)
    · rintro σ H1 ⟨p, xs, w2, rfl, s1, hp, np, hx⟩
      refine ⟨s1 _ _ f1, ?_⟩
      rw [hlen, List.take_of_length_le (Nat.le_refl _)] at hx
      have st : Step [] H0 (upd H1 ra (.dK kvs)) := .unlock r3 rfl rfl (.of s1)
      have st2 : Step [ra] H1 (upd H1 ra (.dK kvs)) := .put (s1 _ _ f1) rfl
      exact ⟨_, rfl, k _ p xs ((StepB.of s0).trans st) (by rw [upd_ne np]; exact hp) (evs_step st2 hx)⟩
end
end Lg

/-! list.remove of a text; d.pop(k) of a dict whose keys are tuples -/
namespace Rl
open PySem L2 PySem.Spec PySem.W PySem.Calls PyProof.Rows PyProof.V
section
variable {X : Cx}
def eqs (k : Str) : Value → Bool
  | .str z _ => z.cps.toList == k.cps.toList
  | _ => false
theorem map_erase (f : Str → V) : ∀ (l : List Str) (j : Nat), (l.map f).eraseIdx j = (l.eraseIdx j).map f
  | [], j => by simp
  | a :: r, 0 => by simp
  | a :: r, j + 1 => by
    have ih := map_erase f r j
    simp [ih]
theorem str_ext {a b : Str} (h : a.cps.toList = b.cps.toList) : a = b := by
  cases a
  cases b
  simp at h
  rw [h]
def rRemS : V → List V → Hp → VK → Prop := fun x xs H Q => ∃ (l : Addr) (ns : List Str) (k : Str) (j : Nat), x = .ref l ∧ xs = [.str k] ∧ H l = some (.lst (ns.map V.str)) ∧ ns[j]? = some k ∧ (∀ m : Nat, m < j → ns[m]? ≠ some k) ∧ Q .non (upd H l (.lst ((ns.eraseIdx j).map V.str)))
theorem mt_removeS : MtM X "list.remove" rRemS := by
  intro pins s σ H x xs v us Q I rx rxs h
  obtain ⟨l, ns, k, j, rfl, rfl, hH, hj, hno, q⟩ := h
  cases rx
  obtain ⟨u, rfl, ru⟩ := rxs.one
  obtain ⟨t, rfl⟩ := ru
  obtain ⟨z, its, n, r, hl, e⟩ := I.lstM hH
  rw [List.length_map] at hl z
  have hjn : j < ns.length := (List.getElem?_eq_some_iff.mp hj).1
  have hjl : j < its.toArray.size := by rw [List.size_toArray]; omega
  have get : ∀ (m : Nat) (y : Str), ns[m]? = some y → ∃ tm, its[m]? = some (.str y tm) := fun m y hy => by
    obtain ⟨u, hu, ru⟩ := r.get (show (ns.map V.str)[m]? = some (.str y) by rw [List.getElem?_map, hy]; rfl)
    obtain ⟨tm, rfl⟩ := ru
    exact ⟨tm, hu⟩
  have all : ∀ y ∈ its, MeetsSeq.EqGives y (.str k t) (eqs k y) := fun y hy => by
    obtain ⟨m, hm⟩ := List.getElem?_of_mem hy
    have hml : m < ns.length := by
      have := (List.getElem?_eq_some_iff.mp hm).1
      omega
    obtain ⟨tm, hm2⟩ := get m _ (List.getElem?_eq_getElem hml)
    rw [hm] at hm2
    cases hm2
    exact SeqRoads2.EqGives.str _ _ _ _
  refine call_meets PySem.F.slot_list_remove ⟨_, e, rfl⟩ PySem.F.entry_list_remove (PySem.F.args_list_remove_2 _ _)
    (MeetsSeq.list_remove l its.toArray n (.str k t) (eqs k) (fun y hy => all y (by simpa using hy)) j hjl ?_ ?_ (by rw [List.size_toArray]; omega)) ⟨e, ?_⟩
  · obtain ⟨tj, hjt⟩ := get j k hj
    obtain ⟨h1, h2⟩ := List.getElem?_eq_some_iff.mp hjt
    have e1 : its.toArray[j] = .str k tj := by simpa using h2
    rw [e1]
    exact beq_self_eq_true _
  · intro m hm hmj
    have hmn : m < ns.length := by omega
    obtain ⟨tm, hmt⟩ := get m _ (List.getElem?_eq_getElem hmn)
    obtain ⟨h1, h2⟩ := List.getElem?_eq_some_iff.mp hmt
    have e1 : its.toArray[m] = .str ns[m] tm := by simpa using h2
    rw [e1]
    refine beq_eq_false_iff_ne.mpr fun e2 => hno m hmj ?_
    rw [List.getElem?_eq_getElem hmn, str_ext e2]
  · have rr := r.eraseIdx j
    rw [map_erase] at rr
    refine ⟨.non, _, I.lset (its' := its.eraseIdx j) (t' := s.toks) hH e ?_ rr ?_, rfl, q⟩
    · show its.toArray.eraseIdxIfInBounds j = (its.eraseIdx j).toArray
      rw [List.eraseIdxIfInBounds_toArray]
    · rw [List.length_map]
      exact Nat.le_trans (List.length_eraseIdx_le ns j) z
end
section
variable {prog : Program} {w : World} {K : Type} [DecidableEq K] {knd : HeapKind prog w K}
open DT in
theorem meetsPop1 {d b : Addr} {k : K} (hd : (d == sysModules) = false) :
    MeetsIn prog w (Builtin.«dict.pop» ⟨[.ref d, .ref b], []⟩) (fun A R s => ∃ xs p, knd.room A.in1 ∧ knd.is s.heap k b ∧ s.heap.DictOfH knd d xs ∧ xs.length ≤ sizeLine ∧ atKey xs k = some p ∧
      ∀ h' tk, h'.DictOfH knd d (dropH xs k) → Heap.SameBut d s.heap h' → R (.ok (.ret p.2)) { s with heap := h', toks := tk }) :=
  .of_wp fun A R s ⟨xs, p, hu, hkey, hm, hsz, hat, hsome⟩ => by
    obtain ⟨o, es, ep, ho, hc, hdat, he, his, hn⟩ := id hm
    have hes : es.size = xs.length := size_of_entries he
    have hpart : (keyPart (Value.ref b)).isSome = false := rfl
    unfold Builtin.«dict.pop»
    refine wpAny_bind ?_
    unfold Builtin.Dict.keyAndDefault
    refine wpAny_bind (wpAny_notOrdered_dict hm.typeIs ?_)
    show wpAny _ _ (pure (d, Value.ref b, none)) _ _ s
    refine wpAny_pure ?_
    simp only [hpart, Bool.false_eq_true, if_false]
    refine wpAny_bind (wpAny_dictEntries ho hdat (wpAny_bind (wpAny_pure ?_)))
    cases hem : es.isEmpty with
    | true =>
      have h0 : xs = [] := by
        have z : es.size = 0 := by simpa using hem
        exact List.length_eq_zero_iff.mp (by omega)
      rw [h0] at hat
      cases hat
    | false =>
      simp only [Bool.false_eq_true, if_false]
      refine wpAny_bind (takeH hu hkey hm hsz (fun hno => ?_) fun p' e hp hev h' hm' hs' => ?_)
      · rw [hat] at hno
        cases hno
      · simp only [Option.isNone_some, Bool.false_eq_true, if_false]
        rw [hat] at hp
        cases hp
        exact wpAny_bind (wpAny_letGo (wpAny_pure ⟨e.val, rfl, by rw [hev]; exact hsome h' _ hm' hs'⟩))
end
/-- d.pop(k) of a dict with tuple keys, k there -/
def rPopT1 : V → List V → Hp → VK → Prop := fun x xs H Q => ∃ (a : Addr) (kvs : List (List L2.Key × V)) (k : List L2.Key) (b : Addr) (v : V), x = .ref a ∧ xs = [.ref b] ∧ H a = some (.dT kvs) ∧ H b = some (.tup (k.map kV)) ∧ valV kvs k = some v ∧ Q v (upd H a (.dT (dropK kvs k)))
theorem mt_popT1 {X : Cx} (hu : X.A.units + 1 < cLine) : MtR X "dict.pop" rPopT1 := by
  intro pins s σ H x xs v us Q I rx rxs h
  obtain ⟨a, kvs, k, b, v0, rfl, rfl, ha, hb, ev, q1⟩ := h
  cases rx
  obtain ⟨u1, rfl, r1⟩ := rxs.one
  cases r1
  obtain ⟨z, hd, xs', rel, dd⟩ := dt_of I.hok ha
  have hz : xs'.length ≤ sizeLine := by rw [← Paired.length rel]; exact z
  have r := rel.val k
  rw [ev] at r
  cases hp : atKey xs' k with
  | none => rw [hp] at r; exact (show False from r).elim
  | some p =>
    rw [hp] at r
    have rv : RelV v0 p.2 := r
    refine call_meetsIn PySem.F.slot_dict_pop dd.typeIs PySem.F.entry_dict_pop (PySem.F.args_dict_pop_2 _ _) (meetsPop1 (knd := tupleKind (mixKind X.prog X.w)) (k := k) hd)
      ⟨xs', p, tupleKind_room_in1 hu, key_of I.hok hb, dd, hz, hp, fun h' tk dd' hs => ?_⟩
    obtain ⟨o, es, ep, hq, h2, h3, h4, _, h5⟩ := dd'
    have I2 : Inv X pins σ (upd H a (.dT (dropK kvs k))) { s with heap := h', toks := tk } :=
      d_write I (by rw [ha]; exact True.intro) hs ⟨o, hq⟩ ⟨Nat.le_trans (dropK_le kvs k) z, hd, _, (DX.KT_drop k rel).keeps (fun c ys ec => (by rw [upd_ne (ne_of ec ha (fun z => nomatch z))]; exact ec)), o, es, ep, hq, h2, h3, h4, h5⟩
    show EP X pins σ Q p.2 _
    exact ⟨v0, _, I2, rv, q1⟩
end Rl

/-! sorted(xs) of pairs of texts: the same pairs -/
namespace SrP
open PySem L2 PySem.Spec PySem.W PyProof.Rows
abbrev B := Addr × Str × Str
def enc (b : B) : PyData := .tuple [.str b.2.1, .str b.2.2]
def rSortTT (K : PySem.W.Frag) : List V → Hp → VK → Prop := fun vs H Q => ∃ (a : Addr) (bs : List B), vs = [V.ref a] ∧ SqL K H a (bs.map fun b => V.ref b.1) ∧ (∀ b ∈ bs, SqT K H b.1 [.str b.2.1, .str b.2.2]) ∧ bs.length ≤ 1000 ∧
  ∀ (cs : List B) (p : Addr), cs.Perm bs → H p = none → Q (.ref p) (upd H p (.lst (cs.map fun b => V.ref b.1)))
theorem each_refs : ∀ {us : List Value} {bs : List B}, Vals (bs.map fun b => V.ref b.1) us → EachIs (fun v b => v = Value.ref b.1) us bs
  | _, [], .nil => .nil
  | _, b :: bs, .cons h t => .cons h (each_refs t)
theorem each_reads {R : Value → B → Prop} {S : Value → B → Prop} : ∀ {us : List Value} {bs : List B}, EachIs R us bs → (∀ v b, b ∈ bs → R v b → S v b) → EachIs S us bs
  | _, _, .nil, _ => .nil
  | _, _, .cons h t, k => .cons (k _ _ (List.mem_cons_self ..) h) (each_reads t fun v b hb => k v b (List.mem_cons_of_mem _ hb))
theorem vals_each : ∀ {us : List Value} {bs : List B}, EachIs (fun v b => v = Value.ref b.1) us bs → Vals (bs.map fun b => V.ref b.1) us
  | _, _, .nil => .nil
  | _, _, .cons h t => .cons h (vals_each t)
theorem cr_sortTT {X : Cx} {k : Nat} (hr : Room k X.A) : CallR X (.builtin "sorted") (rSortTT X.K) := by
  intro pins s σ H vs us Q I r h
  obtain ⟨a, bs, rfl, hs, ht, hl, q⟩ := h
  obtain ⟨its, rv, hlst, hz⟩ := I.list hs
  rw [Vals.ref1 r]
  have e := each_refs rv
  have er : EachIs (fun v b => ∃ as, Reads s.heap v (enc b) as) its bs := each_reads e fun v b hb hv => by
    subst hv
    exact Dp.reads I (enc b) (.ref b.1) _ (.tup (ht b hb) (.cons (.str _) (.cons (.str _) .nil))) rfl
  have hun := hr.un
  refine PySem.W.sorted_data (R := fun v b => v = Value.ref b.1) (enc := enc) hlst.isList e er (AllAlike.of fun b b' => by simp [enc, alike, alikeAll]) (Sortable.tuples fun b => ⟨_, _, rfl⟩) (Nat.le_trans hl (by rw [sizeLine_eq]; decide)) (fun b _ => ?_) fun out ho eo => ?_
  · show X.A.units + 2 + PyData.depth (.tuple [.str b.2.1, .str b.2.2]) < cLine
    simp only [PyData.depth, PyData.depthAll]
    omega
  · obtain ⟨ep, he'⟩ := PyProof.Rows.sortedAll_at s.heap its (List.toArray out)
    have hpm : (bs.mergeSort (dataLe false enc)).Perm bs := List.mergeSort_perm _ _
    have hlen : ((bs.mergeSort (dataLe false enc)).map fun b => V.ref b.1).length ≤ sizeLine := by
      rw [List.length_map, hpm.length_eq]
      exact Nat.le_trans hl (by rw [sizeLine_eq]; decide)
    exact ⟨.ref _, upd H (s.heap.objs.size + 1) (.lst ((bs.mergeSort (dataLe false enc)).map fun b => V.ref b.1)), I.laid (t' := s.toks) (fun _ _ => PyProof.Rows.sortedAll_old) (Nat.le_succ _) ⟨hlen, out, ep, vals_each eo, he'⟩, rfl, q _ _ hpm (I.hok.fresh (Nat.le_succ _))⟩
end SrP

namespace Lg
open PySem L2 TL
/-- o.m(e, ..) of an instance, m may raise what the slots' wish takes -/
def tMethW (C : Addr) (m : Str) (sp : Sp) (E : St → XK) (ta : TE) (t : TA) : TE := fun σ H Q => ta σ H fun x H1 => ∃ a dx fs, x = .ref a ∧ H1 a = some (.ins C dx fs) ∧ fs.lookup m = none ∧ t σ H1 fun vs H2 => sp (x :: vs) H2 Q (E σ)
theorem pe_methW {X : Cx} {CX : CXT} {k : Nat} {f C : Addr} {fd : FuncData} {ps : List Str} {sp : Sp} {E : St → XK} {m : Str} {pos apos : Pos} {e o : Expr} {es : List Expr} {ta : TE} {t : TA} {pl : Sem Bool} (he : PE X o ta) (c : Cls X.K C) (hm : Meth X.K C m f)
    (F : FnOk X.prog X.w X.K X.mg X.base CX k f fd ps sp) (hr : Room k X.A) (hb : Binds X.K fd ps []) (hx : ∀ σ, PassesAt CX X σ (E σ)) (ha : PA X (e :: es) t)
    (hst : starEach (e :: es) X.env = (false, eval e X.env) :: starEach es X.env := by rfl) (hpl : (backTo pos (starEach es X.env)).any (·.1) = false := by rfl)
    (ht : eval (.Call (.Attribute o m apos) (e :: es) [] pos) X.env = (do
      let ov ← eval o X.env
      standAt apos.atName
      let (f, first) ← holding [ov] (getMethod ov m pl)
      callWith pos f first (backTo pos (starEach (e :: es) X.env)) (backToKw pos (keywordEach [] X.env))) := by rfl) :
    PE X (.Call (.Attribute o m apos) (e :: es) [] pos) (tMethW C m sp E ta t) := by
  refine ⟨fun pins s σ H Q I h => ?_⟩
  refine PySem.W.methodCall_KW (pl := pl) (thn (he.run pins s σ H _ I h) fun u s1 ⟨x, H1, I1, rx, a, dx, fs, ex, ea, l, q⟩ => ?_) ht
  subst ex
  obtain rfl : u = Value.ref a := rx
  refine getmeth_ok I1 ea c hm l ?_
  refine PySem.W.callWith_K (first := [.ref a]) (h₀ := X.base) I.ok.mod.kin hm.kp (thn (ha.run pos pins s1 σ H1 _ I1 q) fun us s2 ⟨vs, H2, I2, r, q2⟩ => ⟨I2.kIn, ?_⟩) hst hpl
  exact run_fnS (us := .ref a :: us) (vs := .ref a :: vs) F hr hb (hx σ) I2 (.cons rfl r) q2
section
variable {P : Program} {w : World} {K : PySem.W.Frag} {mg : Str → Option Value} {base : Heap} {f : Addr} {fd : FuncData} {CL CB fI fE : Addr} {fdI fdE : FuncData}
abbrev s_law_refused : Stmt := top 37
theorem sc_law_refused : FnScope ["_law_log", "_law_thing", "_law_e"] ["_law_log", "_law_thing"] (defScope s_law_refused) := ⟨rfl, rfl, rfl, by decide +kernel, rfl, by decide +kernel, by decide +kernel⟩
def spRef (K : PySem.W.Frag) (CL : Addr) : Sp := fun vs H Q _ => ∃ (l : Addr) (v : V) (rows : Rows) (κ : Str → Kd) (g : Str → Int) (d : PyData), vs = [.ref l, v] ∧ LogAt K H CL l rows κ g ∧ Odd K H rows v ∧ Dp K H v d ∧ GoodD d ∧ ∀ H', Same H H' → Q (.bl true) H'
theorem ok_law_refused (F : Fun K "_law_refused" "_law_refused" s_law_refused f fd) (T : Gb K mg) (TL : LogC K CL) (TB : ErrC P w K mg base CB "BadEvent" ["e"] ["self", "e"] fI fdI) (TX : XfC K CB) (TE : PySem.W.findIn K (.ref CB) "e" = some none) (tE : PySem.W.exmOne K (.ref CB) (.ref CB) = some true)
    (mEv : CalM P w K mg base (L2.CX P w) 4 CL "event" fE fdE ["self", "e"] (spEvX K CL CB)) : FnOk P w K mg base CX0 5 f fd ["_law_log", "_law_thing"] (spRef K CL) := by
  refine F.ok sc_law_refused (fun vs H Q E h => ?_) (fun cdv A outer s H vs Q E hr h => ?_)
  · obtain ⟨l, v, rows, κ, g, d, rfl, _⟩ := h
    rfl
  · obtain ⟨l, v, rows, κ, g, d, rfl, hl, ho, hd, hg, k⟩ := h
    refine ⟨_, pss_cons ((ps_try_as (i := 2) rfl rfl sc_law_refused.nd rfl rfl ⟨rfl, by decide, .inl TB.mg⟩ takes0 (fun W pn xe tk _ => pss_one (ps_expr (pe_methW (pv 0) TL.cl mEv.me mEv.ok (hr.mono (by decide)) mEv.bd (fun σ => passAt tk σ) (pa_cons (pv 1) pa_nil)))) (fun a oe cls d pn hz hf => pss_one (ps_ret (pe_cmpR (Kx.eqDK (K := K) hr.units) (pe_xf TX TE hz hf (pv 2)) (pv 1) (nomark _))))))
    (pss_one (ps_ret pe_bl)), ?_⟩
    obtain ⟨dx, ra, na, kd, fo, fi, ce, he, rs, ins, _⟩ := hl.ex
    refine ⟨_, rfl, l, dx, _, rfl, ins, rfl, _, rfl, ?_⟩
    refine ⟨l, v, rows, κ, g, rfl, hl, ho, fun de H' s' hde => ?_⟩
    refine ⟨true, tE, fun _ a ha => ?_, fun z => (by cases z)⟩
    refine ⟨_, rfl, rfl, rfl, de, _, v, rfl, hde, rfl, _, rfl, ?_⟩
    refine ⟨d, d, dp_same s' hd, dp_same s' hd, shaped_good hg, shaped_good hg, ?_⟩
    rw [SeqAt.eqv_refl d hg.1]
    exact k H' s'
end
end Lg

namespace Lg
open PySem L2 TL
theorem strs_dp {K : PySem.W.Frag} {H : Hp} : ∀ ks : List Str, DpAll K H (ks.map V.str) (ks.map PyData.str)
  | [] => .nil
  | _ :: ks => .cons (.str _) (strs_dp ks)
theorem strs_good {ks : List Str} (h : ∀ x ∈ ks, PyData.strOk x = true) : ∀ d ∈ ks.map PyData.str, GoodD d := fun d hd => by
  obtain ⟨x, hx, rfl⟩ := List.mem_map.mp hd
  exact good_str (h x hx)
theorem eqv_nil (ds : List PyData) : PyData.eqv (.list ds) (.list []) = ds.isEmpty := by
  cases ds <;> simp [PyData.eqv, PyData.eqvAll]
/-- a place that holds no row: no list, or one that begins with no reference -/
def okL (H : Hp) (b : Addr) : Prop := noLst H b ∨ ∃ x r, H b = some (.lst (x :: r)) ∧ ∀ t, x ≠ .ref t
theorem okL_well {H : Hp} {a : Addr} (h : WellAt H a) : okL H a := by
  obtain ⟨n, k, h⟩ := h
  exact .inr ⟨_, _, h, fun t z => by cases z⟩
theorem RowAt.stepW {K : PySem.W.Frag} {nt : Bool} {l : List Addr} {H H' : Hp} {v : V} {es : List Ev} (s : StepB nt l H H') (hl : ∀ b ∈ l, okL H b) (h : RowAt K H v es) : RowAt K H' v es := by
  obtain ⟨a, xs, e, h1, h2⟩ := h
  refine ⟨a, xs, e, ?_, evs_step s h2⟩
  rcases h1 with h1 | h1
  · refine .inl ?_
    have ne : ∀ o, H a = some o → (o = .lst xs ∨ ∃ ob, o = .frz ob (.lst xs)) → a ∉ l := fun o ho hx z => by
      rcases hl a z with q | ⟨x, r, q, hq⟩
      · rcases hx with rfl | ⟨ob, rfl⟩
        · exact (q _ ho).1 _ rfl
        · exact (q _ ho).2 _ _ rfl
      · rw [ho] at q
        rcases hx with rfl | ⟨ob, rfl⟩
        · cases q
          cases h2 with
          | cons h _ =>
            obtain ⟨t, _, e, _⟩ := h
            exact hq t e
        · cases q
    rcases h1 with (h1 | ⟨o, h1⟩) | h1
    · exact .inl (.inl (s.oth a _ (ne _ h1 (.inl rfl)) rfl h1))
    · exact .inl (.inr ⟨o, s.oth a _ (ne _ h1 (.inr ⟨o, rfl⟩)) rfl h1⟩)
    · exact .inr h1
  · exact .inr (sqt_step s h1)
theorem rws_stepW {K : PySem.W.Frag} {nt : Bool} {l : List Addr} {H H' : Hp} (s : StepB nt l H H') (hl : ∀ b ∈ l, okL H b) : ∀ {kvs : List (Key × V)} {rows : Rows}, Paired (RwsR K H) kvs rows → Paired (RwsR K H') kvs rows
  | _, _, .nil => .nil
  | _, _, .cons h hs => .cons ⟨h.1, h.2.stepW s hl⟩ (rws_stepW s hl hs)
theorem RowsAt.stepW {K : PySem.W.Frag} {nt : Bool} {l : List Addr} {H H' : Hp} {ra : Addr} {rows : Rows} (s : StepB nt l H H') (hl : ∀ b ∈ l, okL H b) (hr : ra ∉ l) (h : RowsAt K H ra rows) : RowsAt K H' ra rows := by
  obtain ⟨kvs, h1, h2⟩ := h
  exact ⟨kvs, s.oth ra _ hr rfl h1, rws_stepW s hl h2⟩
theorem erase_perm {α : Type} : ∀ {l : List α} {i : Nat} (h : i < l.length), (l[i] :: l.eraseIdx i).Perm l
  | _ :: _, 0, _ => .refl _
  | a :: l, i + 1, h => by
    have h' : i < l.length := by simpa using h
    have ih := erase_perm (l := l) (i := i) h'
    show (l[i] :: a :: l.eraseIdx i).Perm (a :: l)
    exact (List.Perm.swap ..).trans (ih.cons a)
theorem step_well {H : Hp} {a : Addr} (h : WellAt H a) (n k : Int) : Step [a] H (upd H a (.lst [.int n, .int k])) ∧ WellAt (upd H a (.lst [.int n, .int k])) a := by
  obtain ⟨n0, k0, h⟩ := h
  exact ⟨.put h rfl, n, k, upd_same⟩
section
variable {P : Program} {w : World} {K : PySem.W.Frag} {mg : Str → Option Value} {base : Heap} {f : Addr} {fd : FuncData}
abbrev s_law_turned : Stmt := top 36
theorem sc_law_turned : FnScope ["_law_well_here", "_law_table", "_law_found", "_law_keys", "_law_key"] ["_law_well_here", "_law_table"] (defScope s_law_turned) := ⟨rfl, rfl, rfl, by decide +kernel, rfl, by decide +kernel, by decide +kernel⟩
def spTurn (K : PySem.W.Frag) : Sp := fun vs H Q _ => ∃ (a ra : Addr) (rows : Rows), vs = [.ref a, .ref ra] ∧ WellAt H a ∧ RowsAt K H ra rows ∧ (rows.map (·.1)).Nodup ∧ (∀ t ∈ rows.map (·.1), nameOk t = true) ∧ rows.length ≤ 50 ∧
  ∀ H' fa rows', Step [a] H H' → WellAt H' a → H fa = none → rows'.Perm rows → RowsAt K H' fa rows' → Q (.ref fa) H'
theorem ok_law_turned (F : Fun K "_law_turned" "_law_turned" s_law_turned f fd) (T : Gb K mg) (cDraw : C0 P w K mg base 1 "_law_draw" ["_law_well_here", "_law_many"] spDraw) : FnOk P w K mg base CX0 2 f fd ["_law_well_here", "_law_table"] (spTurn K) := by
  obtain ⟨_, _, cDraw⟩ := cDraw
  refine F.ok sc_law_turned (fun vs H Q E h => ?_) (fun cdv A outer s H vs Q E hr h => ?_)
  · obtain ⟨a, ra, rows, rfl, _⟩ := h
    rfl
  · obtain ⟨a, ra, rows, rfl, hw, hr0, hnd, hnm, hl, k⟩ := h
    have hu := hu_of hr
    refine ⟨_, pss_cons (ps_set (i := 2) sc_law_turned.nd rfl (Or.inl rfl) pe_dnewK)
    (pss_cons (ps_set (i := 3) sc_law_turned.nd rfl (Or.inl rfl) (pe_callTy (call_list_dK rfl) (by rfl) T.m_list (by decide +kernel) (pa_cons (pv 1) pa_nil)))
    (pss_cons (ps_while PassesOwn.never (pt_cmpR (op_neD hr.units) (pv 3) (pe_lst pa_nil) (nomark _))
      (pss_cons (ps_set (i := 4) sc_law_turned.nd rfl (Or.inl rfl) (pe_bm PySem.F.plainAttrs_list PySem.F.slot_list_pop PySem.F.type_list_pop mt_popAt (pv 3) (pa_cons (pe_call cDraw.ok (hr.mono (by decide)) (by rfl) cDraw.mg cDraw.kp cDraw.bd .nil pass0 (pa_cons (pv 0) (pa_cons (pe_callB call_len_seq (by rfl) T.m_len PySem.boot_len (pa_cons (pv 3) pa_nil)) pa_nil))) pa_nil)))
    (pss_one (ps_dput hu (pv 2) (pv 4) (pe_ifExp (pt_cmpR op_eq (pe_call cDraw.ok (hr.mono (by decide)) (by rfl) cDraw.mg cDraw.kp cDraw.bd .nil pass0 (pa_cons (pv 0) (pa_cons pe_int pa_nil))) pe_int (nomark _)) (pe_callTy call_tuple_of (by rfl) T.m_tuple (by decide +kernel) (pa_cons (pe_dget hu (pv 1) (pv 4) (fun _ _ => rfl)) pa_nil)) (pe_callTy call_list_of (by rfl) T.m_list (by decide +kernel) (pa_cons (pe_dget hu (pv 1) (pv 4) (fun _ _ => rfl)) pa_nil))) rfl))))
    (pss_one (ps_ret (pv 2))))), ?_⟩
    obtain ⟨kvs, r1, r2⟩ := id hr0
    obtain ⟨n0, k0, hw0⟩ := id hw
    have har : ra ≠ a := ne_kind r1 hw0 (by intro z; cases z)
    refine st_asg ?_
    refine fun fa hfa => ?_
    have s1 : Same H (upd H fa (.dK [])) := same_new hfa
    have f1 : (upd H fa (.dK [])) fa = some (.dK []) := upd_same
    generalize upd H fa (.dK []) = H1 at s1 f1 ⊢
    refine st_asg ?_
    refine ⟨_, rfl, ra, kvs, rfl, s1 _ _ r1, fun kl hkl => ?_⟩
    have ek : (kvs.map fun kv => kV kv.1) = (rows.map (·.1)).map V.str := by
      rw [show (kvs.map fun kv => kV kv.1) = (kvs.map (·.1)).map kV by rw [List.map_map]; rfl, rws_keys r2, List.map_map]
      rfl
    rw [ek]
    have s2 : Same H1 (upd H1 kl (.lst ((rows.map (·.1)).map V.str))) := same_new hkl
    have k2 : (upd H1 kl (.lst ((rows.map (·.1)).map V.str))) kl = some (.lst ((rows.map (·.1)).map V.str)) := upd_same
    generalize upd H1 kl (.lst ((rows.map (·.1)).map V.str)) = H2 at s2 k2 ⊢
    have s12 := s1.trans s2
    have hklH : H kl = none := s1.free hkl
    have n1 : fa ≠ a := ne_none hw0 hfa
    have n2 : kl ≠ a := ne_none hw0 hklH
    have n3 : fa ≠ ra := ne_none r1 hfa
    have n4 : kl ≠ ra := ne_none r1 hklH
    have n5 : kl ≠ fa := ne_none f1 hkl
    refine while_by (fun σ H' => ∃ (w4 : Option V) (ks : List Str) (fr : Rows), σ = [some (.ref a), some (.ref ra), some (.ref fa), some (.ref kl), w4] ∧ Step [a] H H' ∧ WellAt H' a ∧ H' kl = some (.lst (ks.map V.str)) ∧ RowsAt K H' fa fr ∧ (fr ++ ks.map fun t => (t, rowOf rows t)).Perm rows)
      (fun _ H' => match H' kl with | some (.lst xs) => xs.length | _ => 0) ⟨_, rows.map (·.1), [], rfl, .of s12, ⟨n0, k0, s12 _ _ hw0⟩, k2, ⟨[], s2 _ _ f1, .nil⟩, by rw [List.nil_append]; exact rowOf_perm hnd (List.Perm.refl _)⟩ ?_ ?_
    · rintro σ H3 ⟨w4, ks, fr, rfl, st3, hw3, k3, f3, pm⟩
      have hmem : ∀ t ∈ ks, t ∈ rows.map (·.1) := fun t ht => (pm.map (·.1)).mem_iff.mp (by
        rw [List.map_append, List.map_map]
        exact List.mem_append_right _ (List.mem_map.mpr ⟨t, ht, rfl⟩))
      refine ⟨_, rfl, by show 0 ≤ sizeLine; decide, fun q hq => ?_⟩
      have s4 : Same H3 (upd H3 q (.lst [])) := same_new hq
      have q4 : (upd H3 q (.lst [])) q = some (.lst []) := upd_same
      generalize upd H3 q (.lst []) = H4 at s4 q4 ⊢
      have gs : ∀ d ∈ ks.map PyData.str, GoodD d := strs_good fun x hx => name_str (hnm x (hmem x hx))
      refine ⟨.list (ks.map PyData.str), .list [], .lst (SqL.of (s4 _ _ k3)) (strs_dp ks), .lst (SqL.of q4) .nil, shaped_list gs, by decide +kernel, _, rfl, ?_⟩
      rw [eqv_nil]
      cases ks with
      | nil =>
        refine iteF ?_
        exact ⟨_, rfl, k H4 fa fr (st3.trans (.of s4)) (by obtain ⟨x, y, z⟩ := hw3; exact ⟨x, y, s4 _ _ z⟩) hfa (by simpa using pm) (f3.stepW (nt := true) (l := []) (.of s4) (by simp) (by simp))⟩
      | cons t0 ks0 =>
        refine iteT ?_
        have hw4 : WellAt H4 a := by obtain ⟨x, y, z⟩ := hw3; exact ⟨x, y, s4 _ _ z⟩
        have k4 := s4 _ _ k3
        have f4 : RowsAt K H4 fa fr := f3.stepW (nt := true) (l := []) (.of s4) (by simp) (by simp)
        have st4 : Step [a] H H4 := st3.trans (.of s4)
        have hlk : (t0 :: ks0).length ≤ 50 := by
          have := pm.length_eq
          rw [List.length_append, List.length_map] at this
          omega
        have hk0 : okL H4 kl := .inr ⟨_, _, k4, fun t z => by cases z⟩
        have hpos : 0 < (t0 :: ks0).length := Nat.succ_pos _
        have hndk : (fr ++ (t0 :: ks0).map fun t => (t, rowOf rows t)).map (·.1) |>.Nodup := (pm.map (·.1)).nodup_iff.mpr hnd
        rw [List.map_append, List.map_map] at hndk
        have hndk : (fr.map (·.1) ++ (t0 :: ks0)).Nodup := by
          have e : (t0 :: ks0).map ((fun x => x.1) ∘ fun t => (t, rowOf rows t)) = t0 :: ks0 := List.map_id _
          rw [e] at hndk
          exact hndk
        have hμ : (match H3 kl with | some (.lst xs) => xs.length | _ => 0) = (t0 :: ks0).length := by rw [k3]; simp
        rw [hμ]
        clear hμ
        generalize t0 :: ks0 = ks at *
        refine st_asg ?_
        refine ⟨_, rfl, .inl ⟨rfl, _, SqL.of k4⟩, _, rfl, _, rfl, kl, _, rfl, .inl (SqL.of k4), a, _, rfl, hw4, by rw [List.length_map]; omega, by rw [List.length_map]; omega, fun d n c h0 h1 => ?_⟩
        rw [List.length_map] at h1
        obtain ⟨i, rfl⟩ := Int.eq_ofNat_of_zero_le h0
        have hi : i < ks.length := by omega
        obtain ⟨st5, hw5⟩ := step_well hw4 n c
        have k5 : (upd H4 a (.lst [.int n, .int c])) kl = some (.lst (ks.map V.str)) := by rw [upd_ne n2]; exact k4
        generalize upd H4 a (.lst [.int n, .int c]) = H5 at st5 hw5 k5 ⊢
        refine ⟨kl, _, _, i, .str ks[i], rfl, rfl, k5, by omega, by omega, ?_, by simp [hi], ?_⟩
        · rw [List.length_map]
          have := seqIndex_of (k := (i : Int)) (n := ks.length) (by omega) (by omega)
          simpa using this
        have st6 : Step [kl] H5 (upd H5 kl (.lst ((ks.map V.str).eraseIdx i))) := .put k5 rfl
        have k6 : (upd H5 kl (.lst ((ks.map V.str).eraseIdx i))) kl = some (.lst ((ks.eraseIdx i).map V.str)) := by rw [upd_same, Rl.map_erase]
        have hw6 : WellAt (upd H5 kl (.lst ((ks.map V.str).eraseIdx i))) a := by obtain ⟨x, y, z⟩ := hw5; exact ⟨x, y, by rw [upd_ne n2.symm]; exact z⟩
        generalize upd H5 kl (.lst ((ks.map V.str).eraseIdx i)) = H6 at st6 k6 hw6 ⊢
        refine ⟨_, rfl, a, 2, rfl, hw6, by decide, by decide, fun d n' c' h0' h1' => ?_⟩
        obtain ⟨st7, hw7⟩ := step_well hw6 n' c'
        have k7 : (upd H6 a (.lst [.int n', .int c'])) kl = some (.lst ((ks.eraseIdx i).map V.str)) := by rw [upd_ne n2]; exact k6
        generalize upd H6 a (.lst [.int n', .int c']) = H7 at st7 hw7 k7 ⊢
        have s47 : Step [a, kl] H4 H7 := ((st5.wide (by simp)).trans (st6.wide (by simp))).trans (st7.wide (by simp))
        have sH7 : Step [a] H H7 := st4.then s47 (by simp [hklH])
        have r7 : RowsAt K H7 ra rows := hr0.stepW sH7 (by simpa using okL_well hw) (by simpa using har)
        have f7 : RowsAt K H7 fa fr := f4.stepW s47 (by intro b hb; simp at hb; rcases hb with rfl | rfl; exact okL_well hw4; exact hk0) (by simp [n1, n5.symm])
        have htk : ks[i] ∈ ks := List.getElem_mem hi
        obtain ⟨kv7, v, e1, e2, ar, xs, rfl, har7, hpp⟩ := rows_at r7 (hmem _ htk)
        have fin : ∀ (H8 : Hp) (b : Addr), Same H7 H8 → (SqL K H8 b xs ∨ SqT K H8 b xs) → ∃ a' H9, V.ref fa = .ref a' ∧ DPut H8 a' (.str ks[i]) (.ref b) H9 ∧
            ((∃ (w4 : Option V) (ks' : List Str) (fr' : Rows), [some (.ref a), some (.ref ra), some (.ref fa), some (.ref kl), some (.str ks[i])] = [some (.ref a), some (.ref ra), some (.ref fa), some (.ref kl), w4] ∧ Step [a] H H9 ∧ WellAt H9 a ∧ H9 kl = some (.lst (ks'.map V.str)) ∧ RowsAt K H9 fa fr' ∧ (fr' ++ ks'.map fun t => (t, rowOf rows t)).Perm rows) ∧
              (match H9 kl with | some (.lst xs) => xs.length | _ => 0) < ks.length) := fun H8 b s8 hb => by
          obtain ⟨fkv, g1, g2⟩ := f7.stepW (nt := true) (l := []) (.of s8) (by simp) (by simp)
          have hnot : valV fkv (Sum.inr ks[i]) = none := by
            cases q : valV fkv (Sum.inr ks[i]) with
            | none => rfl
            | some u =>
              have q2 := valV_in q
              rw [rws_keys g2] at q2
              obtain ⟨y, hy, e⟩ := List.mem_map.mp q2
              have e : y = ks[i] := Sum.inr.inj e
              subst e
              exact absurd rfl ((List.nodup_append.mp hndk).2.2 _ hy _ htk)
          have hfl : fkv.length ≤ 50 := by
            have := Paired.length g2
            have := pm.length_eq
            rw [List.length_append, List.length_map] at this
            omega
          have st9 : Step [fa] H8 (upd H8 fa (.dK (putK fkv (Sum.inr ks[i]) (.ref b)))) := .put g1 rfl
          have k9 : (upd H8 fa (.dK (putK fkv (Sum.inr ks[i]) (.ref b)))) kl = some (.lst ((ks.eraseIdx i).map V.str)) := by rw [upd_ne n5]; exact s8 _ _ k7
          refine ⟨fa, _, rfl, DPut.k (k := Sum.inr ks[i]) g1 (Nat.lt_of_le_of_lt (show fkv.length ≤ 1000 by omega) (by decide)), ⟨_, ks.eraseIdx i, fr ++ [(ks[i], rowOf rows ks[i])], rfl, ?_, ?_, k9, ?_, ?_⟩, ?_⟩
          · exact (sH7.trans (.of s8)).then st9 (by simp [hfa])
          · obtain ⟨x, y, z⟩ := hw7
            exact ⟨x, y, by rw [upd_ne n1.symm]; exact s8 _ _ z⟩
          · refine ⟨_, upd_same, ?_⟩
            have nl : ∀ b' ∈ [fa], noLst H8 b' := by simpa using nol_dK g1
            have g9 : Paired (RwsR K (upd H8 fa (.dK (putK fkv (Sum.inr ks[i]) (.ref b))))) fkv fr := rws_step st9 nl g2
            have hb9 : RowAt K (upd H8 fa (.dK (putK fkv (Sum.inr ks[i]) (.ref b)))) (.ref b) (rowOf rows ks[i]) := RowAt.step st9 nl ⟨b, xs, rfl, hb, evs_same s8 hpp⟩
            rw [putK_new _ hnot] at *
            exact paired_push g9 ⟨rfl, hb9⟩
          · have e3 : (ks[i] :: ks.eraseIdx i).Perm ks := erase_perm hi
            have e4 := (e3.map fun t => (t, rowOf rows t)).append_left fr
            rw [List.append_assoc]
            exact e4.trans pm
          · rw [k9]
            show ((ks.eraseIdx i).map V.str).length < ks.length
            rw [List.length_map, List.length_eraseIdx_of_lt hi]
            omega
        refine ⟨rfl, _, rfl, ?_⟩
        by_cases hd0 : d = 0
        · refine ifT (by rw [hd0]) ?_
          refine ⟨_, rfl, _, rfl, ra, _, rfl, by rw [← e2]; exact DGet.k (k := Sum.inr ks[i]) e1, ar, xs, rfl, ?_⟩
          rcases har7 with q | q
          · exact .inl ⟨q, fun p hp => ⟨_, rfl, _, rfl, fin _ p (same_new hp) (.inr (SqT.of upd_same))⟩⟩
          · exact .inr ⟨q, ⟨_, rfl, _, rfl, fin _ ar (Same.refl _) (.inr q)⟩⟩
        · refine ifF (fun z => hd0 (V.int.inj z)) ?_
          refine ⟨_, rfl, _, rfl, ra, _, rfl, by rw [← e2]; exact DGet.k (k := Sum.inr ks[i]) e1, ar, xs, rfl, har7, fun p hp => ?_⟩
          exact ⟨_, rfl, _, rfl, fin _ p (same_new hp) (.inl (SqL.of upd_same))⟩
    · rintro σ H3 Q1 Q2 hq ⟨v, e, hl', h⟩
      refine ⟨v, e, hl', fun p hp => ?_⟩
      obtain ⟨d, d', h1, h2, h3, h4, b, h5, h6⟩ := h p hp
      exact ⟨d, d', h1, h2, h3, h4, b, h5, hq _ _ h6⟩
end
end Lg

/-! the drawn world, in plain words: what the run leaves is a good log -/
namespace Lg
open PySem L2 TL
/-- kinds by the names that the law draws -/
def κ0 (x : Str) : Kd := if x ∈ (["x", "y", "z"] : List Str) then .cell else if x ∈ (["l", "m", "n"] : List Str) then .lock else if x ∈ (["s", "t"] : List Str) then .counter else .thread
abbrev thrNames : List Str := ["a", "b", "c", "d", "e"]
theorem κ0_thr {x : Str} (h : x ∈ thrNames) : κ0 x = .thread ∧ nameOk x = true := by
  simp only [thrNames, List.mem_cons, List.mem_nil_iff, or_false] at h
  rcases h with rfl | rfl | rfl | rfl | rfl <;> exact ⟨rfl, by decide +kernel⟩
/-- the rows with one event more of thread t -/
def addEv (rows : Rows) (t : Str) (e : Ev) : Rows := rows.map fun p => if p.1 = t then (p.1, p.2 ++ [e]) else p
theorem addEv_names (rows : Rows) (t : Str) (e : Ev) : (addEv rows t e).map (·.1) = rows.map (·.1) := by
  unfold addEv
  rw [List.map_map]
  refine List.map_congr_left fun p _ => ?_
  show (if p.1 = t then (p.1, p.2 ++ [e]) else p).1 = p.1
  split <;> rfl
theorem addEv_lookup (rows : Rows) (t : Str) (e : Ev) (u : Str) : (addEv rows t e).lookup u = (rows.lookup u).map fun es => if u = t then es ++ [e] else es := by
  induction rows with
  | nil => rfl
  | cons p r ih =>
    obtain ⟨y, es⟩ := p
    unfold addEv at ih ⊢
    rw [List.map_cons]
    by_cases h : u = y
    · subst h
      by_cases h2 : u = t
      · simp [h2]
      · simp [h2]
    · have ne : (u == y) = false := beq_eq_false_iff_ne.mpr h
      by_cases h2 : y = t
      · rw [if_pos h2, List.lookup_cons, List.lookup_cons, ne]
        exact ih
      · rw [if_neg h2, List.lookup_cons, List.lookup_cons, ne]
        exact ih
theorem addEv_len {rows : Rows} {t : Str} (e : Ev) (hn : (rows.map (·.1)).Nodup) (ht : t ∈ rows.map (·.1)) : ((addEv rows t e).map (·.2)).flatten.length = (rows.map (·.2)).flatten.length + 1 := by
  induction rows with
  | nil => cases ht
  | cons p r ih =>
    obtain ⟨y, es⟩ := p
    obtain ⟨h1, h2⟩ := List.nodup_cons.mp (show (y :: r.map (·.1)).Nodup from hn)
    unfold addEv at ih ⊢
    by_cases h : y = t
    · subst h
      have same : (r.map fun p => if p.1 = y then (p.1, p.2 ++ [e]) else p) = r := by
        have : (r.map fun p => if p.1 = y then (p.1, p.2 ++ [e]) else p) = r.map id := List.map_congr_left fun p hp => by
          have hne : ¬ p.1 = y := fun z => h1 (by rw [← z]; exact List.mem_map_of_mem hp)
          rw [if_neg hne]
          rfl
        rw [this, List.map_id]
      rw [List.map_cons, same]
      simp
      omega
    · have ht' : t ∈ r.map (·.1) := (List.mem_cons.mp ht).resolve_left fun z => h z.symm
      rw [List.map_cons, if_neg h, List.map_cons, List.flatten_cons, List.length_append, ih h2 ht', List.map_cons, List.flatten_cons, List.length_append]
      omega
/-- the row's locks: free at its beginning, h at its end -/
def HeldTo (es : List Ev) (h : Str → Option Str) : Prop := ∃ hs : Nat → Str → Option Str, hs 0 = (fun _ => none) ∧ (∀ i e, es[i]? = some e → heldE (hs i) e = some (hs (i + 1))) ∧ hs es.length = h
theorem HeldTo.row {es : List Ev} {h : Str → Option Str} (k : HeldTo es h) : HeldRow es := let ⟨hs, a, b, _⟩ := k; ⟨hs, a, b⟩
theorem HeldTo.push {es : List Ev} {h h' : Str → Option Str} {e : Ev} (k : HeldTo es h) (he : heldE h e = some h') : HeldTo (es ++ [e]) h' := by
  obtain ⟨hs, a, b, c⟩ := k
  refine ⟨fun i => if i ≤ es.length then hs i else h', by simp [a], fun i e' hi => ?_, by
    dsimp only
    rw [if_neg (by simp)]⟩
  by_cases hl : i < es.length
  · rw [List.getElem?_append_left hl] at hi
    dsimp only
    rw [if_pos (Nat.le_of_lt hl), if_pos (show i + 1 ≤ es.length from hl)]
    exact b i e' hi
  · rw [List.getElem?_append_right (by omega)] at hi
    have hi2 : i = es.length := by
      have := (List.getElem?_eq_some_iff.mp hi).1
      simp at this
      omega
    subst hi2
    rw [Nat.sub_self] at hi
    cases hi
    dsimp only
    rw [if_pos (Nat.le_refl _), if_neg (by omega), c]
    exact he
/-- what holds of the drawn world -/
structure WG (ns : List Str) (rows : Rows) (live ended unborn : List Str) (lk : Str → Str → Option Str) : Prop where
  nms : rows.map (·.1) = ns
  nsub : ∀ t ∈ ns, t ∈ thrNames
  nnd : ns.Nodup
  nlen : 1 ≤ ns.length ∧ ns.length ≤ 5
  parts : (live ++ ended ++ unborn).Nodup
  psub : ∀ t ∈ live ++ ended ++ unborn, t ∈ ns
  ok : ∀ (t : Str) (es : List Ev), rows.lookup t = some es → ∀ (i : Nat) (e : Ev), es[i]? = some e → e.ok
  kind : ∀ (t : Str) (es : List Ev), rows.lookup t = some es → ∀ (i : Nat) (e : Ev), es[i]? = some e → kdOf e.w ≠ .lone → ∀ x, e.o = some x → κ0 x = kdOf e.w
  fork : ∀ (t : Str) (es : List Ev), rows.lookup t = some es → ∀ (i : Nat) (e : Ev), es[i]? = some e → e.w = "fork" → ∀ x, e.o = some x → x ≠ t ∧ x ∈ ns
  join : ∀ (t : Str) (es : List Ev), rows.lookup t = some es → ∀ (i : Nat) (e : Ev), es[i]? = some e → e.w = "join" → ∀ x, e.o = some x → x ≠ t ∧ x ∈ ended
  fin : ∀ (t : Str) (es : List Ev), rows.lookup t = some es → ∀ (i : Nat) (e : Ev), es[i]? = some e → e.w = "end" → i + 1 = es.length ∧ t ∈ ended
  done : ∀ t ∈ ended, endsB (rowOf rows t) = true
  forks : ((rows.map (·.2)).flatten.flatMap forkE).Nodup
  unb : ∀ x ∈ unborn, x ∉ (rows.map (·.2)).flatten.flatMap forkE
  held : ∀ t ∈ ns, HeldTo (rowOf rows t) (fun l => lk l t)
theorem WG.good {ns : List Str} {rows : Rows} {live ended unborn : List Str} {lk : Str → Str → Option Str} (g : WG ns rows live ended unborn lk) (hz : (rows.map (·.2)).flatten.length ≤ 40) : Good rows κ0 := by
  have oks : ∀ (t : Str) (es : List Ev), rows.lookup t = some es → ∀ e ∈ es, e.ok := fun t es h e he => by
    obtain ⟨i, hi⟩ := List.getElem?_of_mem he
    exact g.ok t es h i e hi
  have look : ∀ x ∈ ns, ∃ es, rows.lookup x = some es := fun x hx => lookup_mem (by rw [g.nms]; exact hx)
  have mem : ∀ t es, rows.lookup t = some es → t ∈ ns := fun t es h => by
    by_cases ht : t ∈ rows.map (·.1)
    · rw [g.nms] at ht
      exact ht
    · rw [lookup_none ht] at h
      cases h
  refine ⟨fun t es h => ⟨(κ0_thr (g.nsub t (mem t es h))).2, fun i e hi => ⟨g.ok t es h i e hi, g.kind t es h i e hi, fun hk x hx => ?_, fun hw => (g.fin t es h i e hi hw).1⟩, ?_⟩, by rw [g.nms]; exact g.nnd, fun t ht => (κ0_thr (g.nsub t (by rw [← g.nms]; exact ht))).1, g.forks, ?_, hz⟩
  · rcases kd_thr hk with hw | hw
    · obtain ⟨h1, h2⟩ := g.fork t es h i e hi hw x hx
      obtain ⟨es', he'⟩ := look x h2
      exact ⟨h1, es', he', oks x es' he', fun hj => by rw [hw] at hj; exact absurd hj (by decide +kernel)⟩
    · obtain ⟨h1, h2⟩ := g.join t es h i e hi hw x hx
      obtain ⟨es', he'⟩ := look x (g.psub x (by simp [h2]))
      refine ⟨h1, es', he', oks x es' he', fun _ => ?_⟩
      have := g.done x h2
      rw [rowOf, he'] at this
      exact this
  · have := (g.held t (mem t es h)).row
    rw [rowOf, h] at this
    exact this
  · have e := congrArg List.length g.nms
    rw [List.length_map] at e
    rw [e]
    exact g.nlen
theorem addEv_forks {rows : Rows} {t : Str} (e : Ev) (hn : (rows.map (·.1)).Nodup) (ht : t ∈ rows.map (·.1)) : (((addEv rows t e).map (·.2)).flatten.flatMap forkE).Perm (forkE e ++ (rows.map (·.2)).flatten.flatMap forkE) := by
  induction rows with
  | nil => cases ht
  | cons p r ih =>
    obtain ⟨y, es⟩ := p
    obtain ⟨h1, h2⟩ := List.nodup_cons.mp (show (y :: r.map (·.1)).Nodup from hn)
    unfold addEv at ih ⊢
    by_cases h : y = t
    · subst h
      have same : (r.map fun p => if p.1 = y then (p.1, p.2 ++ [e]) else p) = r := by
        have : (r.map fun p => if p.1 = y then (p.1, p.2 ++ [e]) else p) = r.map id := List.map_congr_left fun p hp => by
          have hne : ¬ p.1 = y := fun z => h1 (by rw [← z]; exact List.mem_map_of_mem hp)
          rw [if_neg hne]
          rfl
        rw [this, List.map_id]
      rw [List.map_cons, same, if_pos rfl]
      simp only [List.map_cons, List.flatten_cons, List.flatMap_append, List.flatMap_cons, List.flatMap_nil, List.append_nil, List.append_assoc]
      rw [← List.append_assoc, ← List.append_assoc]
      exact List.Perm.append_right _ List.perm_append_comm
    · have ht' : t ∈ r.map (·.1) := (List.mem_cons.mp ht).resolve_left fun z => h z.symm
      rw [List.map_cons, if_neg h]
      simp only [List.map_cons, List.flatten_cons, List.flatMap_append]
      refine ((ih h2 ht').append_left _).trans ?_
      rw [← List.append_assoc, ← List.append_assoc]
      exact List.Perm.append_right _ List.perm_append_comm
theorem ends_push (es : List Ev) (e : Ev) : endsB (es ++ [e]) = isEnd e := by simp [endsB]
/-- one event more of a live thread -/
theorem WG.add {ns : List Str} {rows : Rows} {live ended unborn live' ended' unborn' : List Str} {lk lk' : Str → Str → Option Str} {t : Str} {e : Ev} (g : WG ns rows live ended unborn lk) (ht : t ∈ live) (hok : e.ok)
    (hkind : kdOf e.w ≠ .lone → ∀ x, e.o = some x → κ0 x = kdOf e.w) (hfork : e.w = "fork" → ∀ x, e.o = some x → x ∈ unborn) (hjoin : e.w = "join" → ∀ x, e.o = some x → x ≠ t ∧ x ∈ ended)
    (hheld : heldE (fun l => lk l t) e = some (fun l => lk' l t)) (hlk : ∀ u, u ≠ t → ∀ l, lk' l u = lk l u) (hp : (live' ++ ended' ++ unborn').Nodup) (hs : ∀ x ∈ live' ++ ended' ++ unborn', x ∈ ns)
    (he1 : ∀ x ∈ ended, x ∈ ended') (he2 : ∀ x ∈ ended', x ∈ ended ∨ (x = t ∧ e.w = "end")) (hu : ∀ x ∈ unborn', x ∈ unborn ∧ (e.w = "fork" → e.o ≠ some x)) (hfin : e.w = "end" → t ∈ ended') :
    WG ns (addEv rows t e) live' ended' unborn' lk' := by
  have htn : t ∈ ns := g.psub t (by simp [ht])
  have htr : t ∈ rows.map (·.1) := by rw [g.nms]; exact htn
  have hnd : (rows.map (·.1)).Nodup := by rw [g.nms]; exact g.nnd
  obtain ⟨hle, hun, hd3⟩ := List.nodup_append.mp g.parts
  obtain ⟨_, _, hd2⟩ := List.nodup_append.mp hle
  have tne : t ∉ ended := fun z => hd2 t ht t z rfl
  have tnu : t ∉ unborn := fun z => hd3 t (by simp [ht]) t z rfl
  -- an event of the new rows: an old one, or e
  have old : ∀ (u : Str) (es : List Ev), (addEv rows t e).lookup u = some es → ∀ (i : Nat) (e' : Ev), es[i]? = some e' → (∃ es0, rows.lookup u = some es0 ∧ es0[i]? = some e' ∧ (u ≠ t → es = es0)) ∨ (u = t ∧ e' = e ∧ i + 1 = es.length) := fun u es h i e' hi => by
    rw [addEv_lookup] at h
    cases q : rows.lookup u with
    | none => rw [q] at h; cases h
    | some es0 =>
      rw [q] at h
      have h := Option.some.inj h
      dsimp only at h
      by_cases hut : u = t
      · rw [if_pos hut] at h
        subst h
        by_cases hl : i < es0.length
        · rw [List.getElem?_append_left hl] at hi
          exact .inl ⟨es0, rfl, hi, fun z => absurd hut z⟩
        · rw [List.getElem?_append_right (by omega)] at hi
          have hi2 : i = es0.length := by
            have := (List.getElem?_eq_some_iff.mp hi).1
            simp at this
            omega
          subst hi2
          rw [Nat.sub_self] at hi
          cases hi
          exact .inr ⟨hut, rfl, by simp⟩
      · rw [if_neg hut] at h
        subst h
        exact .inl ⟨es0, rfl, hi, fun _ => rfl⟩
  have row : ∀ u, u ∈ ns → rowOf (addEv rows t e) u = if u = t then rowOf rows u ++ [e] else rowOf rows u := fun u hu' => by
    obtain ⟨es, hes⟩ := lookup_mem (rows := rows) (t := u) (by rw [g.nms]; exact hu')
    rw [rowOf, addEv_lookup, rowOf, hes]
    rfl
  refine ⟨by rw [addEv_names, g.nms], g.nsub, g.nnd, g.nlen, hp, hs, ?_, ?_, ?_, ?_, ?_, ?_, ?_, ?_, ?_⟩
  · intro u es h i e' hi
    rcases old u es h i e' hi with ⟨es0, h0, h1, _⟩ | ⟨_, rfl, _⟩
    · exact g.ok u es0 h0 i e' h1
    · exact hok
  · intro u es h i e' hi
    rcases old u es h i e' hi with ⟨es0, h0, h1, _⟩ | ⟨_, rfl, _⟩
    · exact g.kind u es0 h0 i e' h1
    · exact hkind
  · intro u es h i e' hi hw x hx
    rcases old u es h i e' hi with ⟨es0, h0, h1, _⟩ | ⟨rfl, rfl, _⟩
    · exact g.fork u es0 h0 i e' h1 hw x hx
    · have hxu := hfork hw x hx
      exact ⟨fun z => tnu (z ▸ hxu), g.psub x (by simp [hxu])⟩
  · intro u es h i e' hi hw x hx
    rcases old u es h i e' hi with ⟨es0, h0, h1, _⟩ | ⟨rfl, rfl, _⟩
    · obtain ⟨a, b⟩ := g.join u es0 h0 i e' h1 hw x hx
      exact ⟨a, he1 x b⟩
    · obtain ⟨a, b⟩ := hjoin hw x hx
      exact ⟨a, he1 x b⟩
  · intro u es h i e' hi hw
    rcases old u es h i e' hi with ⟨es0, h0, h1, h2⟩ | ⟨rfl, rfl, h2⟩
    · obtain ⟨a, b⟩ := g.fin u es0 h0 i e' h1 hw
      have hut : u ≠ t := fun z => tne (z ▸ b)
      rw [h2 hut]
      exact ⟨a, he1 u b⟩
    · exact ⟨h2, hfin hw⟩
  · intro x hx
    rcases he2 x hx with h | ⟨rfl, hw⟩
    · have hxt : x ≠ t := fun z => tne (z ▸ h)
      rw [row x (g.psub x (by simp [h])), if_neg hxt]
      exact g.done x h
    · rw [row x htn, if_pos rfl, ends_push, isEnd, hw]
      rfl
  · refine (addEv_forks e hnd htr).nodup_iff.mpr ?_
    have hfe : ∀ x ∈ forkE e, x ∈ unborn := fun x hx => by
      unfold forkE at hx
      by_cases hw : e.w = "fork"
      · rw [if_pos hw] at hx
        exact hfork hw x (by simpa using hx)
      · rw [if_neg hw] at hx
        cases hx
    refine List.nodup_append.mpr ⟨?_, g.forks, fun a ha b hb z => g.unb a (hfe a ha) (z ▸ hb)⟩
    unfold forkE
    split
    · cases e.o <;> simp
    · exact List.nodup_nil
  · intro x hx hm
    obtain ⟨h1, h2⟩ := hu x hx
    rcases List.mem_append.mp ((addEv_forks e hnd htr).mem_iff.mp hm) with hm | hm
    · unfold forkE at hm
      by_cases hw : e.w = "fork"
      · rw [if_pos hw] at hm
        exact h2 hw (by simpa using hm)
      · rw [if_neg hw] at hm
        cases hm
    · exact g.unb x h1 hm
  · intro u hu'
    rw [row u hu']
    by_cases hut : u = t
    · subst hut
      rw [if_pos rfl]
      exact (g.held u hu').push hheld
    · rw [if_neg hut, show (fun l => lk' l u) = fun l => lk l u from funext (hlk u hut)]
      exact g.held u hu'
end Lg

/-! set(xs) of a list of texts; sorted of it -/
namespace StT
open PySem L2 PySem.Spec PyProof.Rows PySem.Froz
section
variable {P : Program} {w : World} {A : Around} {E : Value → Shared → Prop} {s : Shared}
/-- the set of the texts l at a; its table can be walked -/
def SetT (P : Program) (w : World) (h : Heap) (a : Addr) (l : List Str) : Prop := ∃ D : SD, h.get? a = some (sObj "set" D) ∧ TxOk P w D l ∧ Ris D.2.2.place.toList ∧ (w.params.followText "set-order" = true ∨ D.2.2.led = true) ∧ l.Nodup
theorem SetT.at {h h' : Heap} {a : Addr} {l : List Str} (R : SetT P w h a l) (k : ∀ o, h.get? a = some o → h'.get? a = some o) : SetT P w h' a l := let ⟨D, h1, r⟩ := R; ⟨D, k _ h1, r⟩
theorem tail_ris {ep : Nat} {es1 : Array (Int × Value)} {t2 : SetTable} {wd : Bool} (r : Ris t2.place.toList) : Ris (tailTx ep es1 t2 wd).2.2.place.toList := by
  unfold tailTx
  split
  · exact relayAll_ris _ _ _
  · exact r
theorem tail_led {ep : Nat} {es1 : Array (Int × Value)} {t2 : SetTable} {wd : Bool} : (tailTx ep es1 t2 wd).2.2.led = t2.led := by
  unfold tailTx
  split
  · exact relayAll_led _ _ _
  · rfl
theorem addTx_ris {h : Int} {v : Value} {D : SD} (r : Ris D.2.2.place.toList) : Ris (addTx h v D).2.2.place.toList := by
  unfold addTx
  refine tail_ris ?_
  split
  · exact layNew_ris D.2.2 D.1 h v r
  · exact layNew_ris D.2.2 D.1 h v r
theorem addTx_led {h : Int} {v : Value} {D : SD} : (addTx h v D).2.2.led = D.2.2.led := by
  unfold addTx
  rw [tail_led]
  split
  · exact layNew_led D.2.2 D.1 h v
  · exact layNew_led D.2.2 D.1 h v
/-- an add of what is there -/
theorem in_x {a : Addr} {T : String} {D : SD} {l : List Str} {k : Str} {u : Tok} {Q : Bool → Shared → Prop} (ho : s.heap.get? a = some (sObj T D)) (F : TxOk P w D l) (hk : k ∈ l) (hb : l.length < scanBound)
    (h : Q false s) : wpAny (model P w) A (setAddHashed a (.str k u) (hashStr w k)) Q E s := by
  obtain ⟨es, ep, t⟩ := D
  have hd : (sObj T (es, ep, t)).data = .set es ep t := rfl
  have hf : t.fits es.size = true := F.fit
  have hel : ElemsOf (strKind P w) es.toList := F.el
  have hsz : es.size = l.length := F.sz
  have hb0 : es.size < scanBound := by omega
  have hkey : (strKind P w).is k (.str k u) = true := is_str k u
  unfold setAddHashed setAddHashedIn
  refine wpAny_holding (wpAny_bind (wpAny_setState_of ho hd hf ?_))
  dsimp only
  rw [byScan_of rfl hb0 hel]
  simp only [↓reduceIte]
  unfold setAddByScan
  refine wpAny_bind ?_
  refine wpAny_bind (wpAny_rule ?_)
  refine wpAny_bind (wpAny_setScan_of (knd := strKind P w) (k := k) hkey ho hd hf hel ?_)
  cases hr : List.findIdx? (fun e => (strKind P w).is k e.2) es.toList with
  | none =>
    obtain ⟨e, he, q⟩ := (F.mem k).mp hk
    have c := List.findIdx?_eq_none_iff.mp hr e he
    rw [q] at c
    cases c
  | some j =>
    dsimp only
    exact wpAny_pure (wpAny_pure h)
theorem add_hashed {a : Addr} {l : List Str} {k : Str} {u : Tok} {Q : Bool → Shared → Prop} (R : SetT P w s.heap a l) (room : l.length + 1 < scanBound)
    (hQ : ∀ b h' l', Heap.SameBut a s.heap h' → SetT P w h' a l' → (∀ x, x ∈ l' ↔ x ∈ l ∨ x = k) → l'.length ≤ l.length + 1 → Q b { s with heap := h' }) : wpAny (model P w) A (setAddHashed a (.str k u) (hashStr w k)) Q E s := by
  obtain ⟨D, ho, F, hr, hl, nd⟩ := R
  by_cases hk : k ∈ l
  · exact in_x ho F hk (by omega) (hQ false s.heap l (Heap.SameBut.refl a s.heap) ⟨D, ho, F, hr, hl, nd⟩ (fun x => ⟨.inl, fun z => z.elim id fun e => e ▸ hk⟩) (Nat.le_succ _))
  · refine add_x ho F hk room ?_
    refine hQ true _ (k :: l) (Heap.SameBut.update ..) ⟨_, get_upd _ ho rfl, add_ok u F, addTx_ris hr, hl.imp id fun z => by rw [addTx_led]; exact z, List.nodup_cons.mpr ⟨hk, nd⟩⟩ (fun x => by simp [or_comm]) (Nat.le_refl _)
theorem fresh_at {h : Heap} {a : Addr} (ho : h.get? a = some { cls := .type "set", dict := none, data := .set #[] 0 (.fresh 0 0 (!w.params.followText "set-order")) }) : SetT P w h a [] := by
  refine ⟨(#[], 0, .fresh 0 0 (!w.params.followText "set-order")), ho, TxOk.nil rfl, List.Pairwise.nil, ?_, List.nodup_nil⟩
  show _ ∨ (!w.params.followText "set-order") = true
  cases w.params.followText "set-order"
  · exact .inr rfl
  · exact .inl rfl
set_option maxHeartbeats 1000000 in
theorem update_strs {I : Addr} {fp wr : List Addr} {G : Array GenState → Array GenState → Prop} {n : Nat} {Pv : Nat → Value → Prop} {St : Nat → Shared → Prop} {R : Result → Shared → Prop}
    (W : WalksS P w A.in1 I fp wr G n Pv St) (S : Addr) (hSf : S ∉ fp) (ns : List Str) (hn : n = ns.length) (hb : ns.length + 1 < scanBound) (hval : ∀ i v, Pv i v → ∃ k t, ns[i]? = some k ∧ v = .str k t) :
    ∀ (k i : Nat) (s : Shared), n - i = k → i ≤ n → St i s → (∃ l, l.length ≤ i ∧ SetT P w s.heap S l ∧ ∀ x, x ∈ l ↔ x ∈ ns.take i) →
      (∀ s' l, Moved (S :: wr) G s s' → l.length ≤ n → SetT P w s'.heap S l → (∀ x, x ∈ l ↔ x ∈ ns) → R (.ok (.ret .none)) s') →
      codeAny (model P w) A (.builtin "set.update.loop" ⟨[.ref S, .ref I], []⟩) R s := by
  have hSw : S ∉ wr := fun h => hSf (W.sub _ h)
  have hsub : ∀ b ∈ wr, b ∈ S :: wr := fun b hb => List.mem_cons_of_mem _ hb
  intro k
  induction k with
  | zero =>
    intro i s hk' hi hst ⟨l, hc, hS, hm0⟩ hR
    have hin : i = n := by omega
    subst hin
    refine codeAny_builtin PyProof.Rows.F.entry_set_update_loop ?_
    rw [Around.under_plainId PyProof.Rows.F.plain_set_update_loop _]
    show wpAny _ A.in1 (pyNext (.ref I) >>= _) _ _ s
    refine wpAny_bind (W.done s _ _ hst fun s' hm => ?_)
    show wpAny _ A.in1 (ret Value.none) _ _ s'
    have e : ns.take i = ns := List.take_of_length_le (by omega)
    rw [e] at hm0
    exact wpAny_pure (hR s' l (hm.mono hsub) hc (hS.at fun o e => hm.heap S o hSw e) hm0)
  | succ k ih =>
    intro i s hk' hi hst ⟨l, hc, hS, hm0⟩ hR
    have hlt : i < n := by omega
    refine codeAny_builtin PyProof.Rows.F.entry_set_update_loop ?_
    rw [Around.under_plainId PyProof.Rows.F.plain_set_update_loop _]
    show wpAny _ A.in1 (pyNext (.ref I) >>= _) _ _ s
    refine wpAny_bind (W.item i s _ _ hlt hst fun v s' hP hst' hm => ?_)
    obtain ⟨z, t, hz, rfl⟩ := hval i v hP
    have hS' : SetT P w s'.heap S l := hS.at fun o e => hm.heap S o hSw e
    show wpAny _ A.in1 (holding [Value.str z t] (setAdd S (.str z t)) >>= _) _ _ s'
    refine wpAny_bind (wpAny_holding ?_)
    unfold setAdd
    refine wpAny_holding ?_
    refine wpAny_bind ((strKind P w).pyHash (k := z) (is_str z t) ?_)
    refine add_hashed (s := { s' with toks := s'.toks + 1 }) hS' (by omega) fun b h' l' hsb hS2 hm2 hl2 => ?_
    have hm3 : ∀ x, x ∈ l' ↔ x ∈ ns.take (i + 1) := fun x => by
      rw [hm2 x, hm0 x, List.take_add_one, hz]
      simp [List.mem_append]
    refine wpAny_pure ⟨plainId_quiet PyProof.Rows.F.plain_set_update_loop _, ih (i + 1) _ (by omega) hlt (W.frame _ s' _ _ hst' (Nat.le_succ _) fun b hb o e => ?_) ⟨l', by omega, hS2, hm3⟩ fun s'' l2 hm'' hc'' hS'' hx'' => ?_⟩
    · rw [hsb.2 b (fun h : b = S => hSf (by rw [← h]; exact hb))]; exact e
    · refine hR s'' l2 (Moved.trans W.gtrans ((hm.mono hsub).then_heap (Nat.le_succ _) fun b o hb e => ?_) hm'') hc'' hS'' hx''
      rw [hsb.2 b (fun h : b = S => hb (by rw [h]; exact List.mem_cons_self))]; exact e
end
end StT

/-! set(list of texts) as a rule, sorted of such a set as a rule -/
namespace StT
open PySem L2 PySem.Spec PyProof.Rows PySem.Froz
abbrev nob (w : World) : Obj := { cls := .type "set", dict := none, data := .set #[] 0 (.fresh 0 0 (!w.params.followText "set-order")) }
section
variable {P : Program} {w : World} {A : Around} {E : Value → Shared → Prop} {s : Shared}
theorem call_set_strs {l : Addr} {its : Array Value} (xs : List Str) {Q : Value → Shared → Prop} (hh : A.handled = none) (hl : s.heap.IsList l its) (hx : StrsAre its.toList xs) (hb : xs.length + 1 < scanBound)
    (fin : ∀ (g : Heap) (tk : Nat) (m : List Str), SetT P w g s.heap.objs.size m → m.length ≤ xs.length → (∀ x, x ∈ m ↔ x ∈ xs) → (∀ b o, s.heap.get? b = some o → g.get? b = some o) → Q (.ref s.heap.objs.size) { s with heap := g, toks := tk }) :
    wpAny (model P w) A (call (.type "set") [.ref l]) Q E s := by
  have lenE : its.size = xs.length := by
    have q := StrsAre.length hx
    simpa using q
  obtain ⟨_, _, mro⟩ := PySem.F.called_set.mro
  have c1 := PySem.F.called_set.made
  have c2 := PySem.F.called_set.sub
  refine wpAny_call (codeAny_of_tree ?_)
  show wpAny _ _ (callAny (.type "set") _) _ _ s
  refine wpAny_pure ⟨Code.quiet_builtin _ (by decide +kernel), codeAny_builtin PySem.F.entry_type_call ?_⟩
  rw [Around.under_plain (weight_type_call_type "set" [.ref l] []) rfl]
  have c3 := PySem.F.called_set.notType
  have c4 := PySem.F.called_set.canCreate
  have c5 := PySem.F.typeCall_set_1 (.ref l)
  repeat (any_goals (first | assumption | wp_step))
  refine codeAny_mono (code_set_led1 (.ref l) (E := E) (Q₁ := fun ob t => ob = .ref s.heap.objs.size ∧ t = { s with heap := s.heap.push (nob w) }) ⟨rfl, rfl⟩) fun r t hr => ?_
  rcases r with e | fl
  · exact hr
  cases fl with
  | ret ob =>
    obtain ⟨rfl, rfl⟩ := hr
    have at0 : (s.heap.push (nob w)).get? s.heap.objs.size = some (nob w) := Heap.get?_push_size _ rfl
    have ty0 : Shared.TypeIs { s with heap := s.heap.push (nob w) } (.ref s.heap.objs.size) "set" := ⟨_, at0, rfl⟩
    have i1 := PySem.F.called_set.init.lookup
    have i2 := PySem.F.called_set.init.bind (.ref s.heap.objs.size)
    repeat (any_goals (first | assumption | wp_step))
    refine codeAny_mono (codeAny_call_builtin (R := wants (fun r t => r = .none ∧ ∃ g tk m, t = { s with heap := g, toks := tk } ∧ SetT P w g s.heap.objs.size m ∧ m.length ≤ xs.length ∧ (∀ x, x ∈ m ↔ x ∈ xs) ∧ (∀ b o, s.heap.get? b = some o → g.get? b = some o)) E)
      PySem.F.called_set.init.plain PySem.F.entry_set_init (check_set_init_1 ty0 ?_)) fun r t hr => ?_
    · obtain ⟨⟨oc, od, odt, osl⟩, at1, k1, n1, k2⟩ := hl
      simp only at k1 k2
      subst k1
      subst k2
      have at2 : (s.heap.push (nob w)).get? l = some { cls := .type "list", dict := od, data := .seq its n1, slots := osl } := Heap.get?_push_of_some _ at1
      have q1 := PySem.F.sub_list_set
      have q2 := PySem.F.sub_list_frozenset
      have q3 : (Value.type "list" == Value.type "dict") = false := by decide
      have il : (s.heap.push (nob w)).IsList l its := ⟨_, at2, rfl, n1, rfl⟩
      unfold Builtin.«set.__init__» noKeywords Builtin.Frozenset.updateFrom
      generalize hy : pyIter = IT
      wp_walk
      subst hy
      refine wpAny_pyIter_list il ?_
      refine wpAny_bind (wpAny_runValue ?_)
      have lt1 : l < s.heap.objs.size := Heap.lt_size at1
      have sz1 : (s.heap.push (nob w)).objs.size = s.heap.objs.size + 1 := Heap.size_push ..
      have ne1 : l ≠ (s.heap.push (nob w)).objs.size := by rw [sz1]; exact Nat.ne_of_lt (Nat.lt_succ_of_lt lt1)
      refine update_strs ((Walks.list (by simp [hh]) _ l ne1 its).toS) s.heap.objs.size ?_ xs lenE hb ?_ (its.size - 0) 0 _ (by omega) (Nat.zero_le _) ⟨⟨_, Heap.get?_push_size _ rfl, rfl, rfl⟩, il.push _⟩ ?_ ?_
      · rw [sz1]
        intro z
        rcases List.mem_cons.mp z with z | z
        · exact absurd z (Nat.ne_of_lt (Nat.lt_succ_self _))
        · exact absurd (List.mem_singleton.mp z) (Nat.ne_of_gt lt1)
      · intro i v hv
        have hi : i < xs.length := by rw [← lenE]; exact (Array.getElem?_eq_some_iff.mp hv).1
        obtain ⟨tk, e⟩ := SS.strs_at hx i v (by rw [Array.getElem?_toList]; exact hv)
        refine ⟨xs[i], tk, List.getElem?_eq_getElem hi, ?_⟩
        rw [e, List.getD_eq_getElem?_getD, List.getElem?_eq_getElem hi]
        rfl
      · exact ⟨[], Nat.le_refl _, fresh_at (Heap.get?_push_of_some _ at0), fun x => by simp⟩
      · intro t m mv hc st hm
        obtain ⟨g, g2, d2, tk, o2⟩ := t
        have e1 : g2 = s.gens := mv.gens
        have e2 : d2 = s.drawn := mv.drawn
        have e3 : o2 = s.os := mv.os
        subst e1
        subst e2
        subst e3
        show wpAny _ _ _ _ _ _
        refine wpAny_pure ?_
        show wpAny _ _ (ret Value.none) _ _ _
        refine wpAny_pure ⟨rfl, g, tk, m, rfl, st, by rw [← lenE]; exact hc, hm, fun b o e => ?_⟩
        have lb : b < s.heap.objs.size := Heap.lt_size e
        refine mv.heap b o (fun z => ?_) (Heap.get?_push_of_some _ (Heap.get?_push_of_some _ e))
        rw [sz1] at z
        rcases List.mem_cons.mp z with z | z
        · exact absurd z (Nat.ne_of_lt lb)
        · exact absurd (List.mem_singleton.mp z) (Nat.ne_of_lt (Nat.lt_succ_of_lt lb))
    · rcases r with e | fl
      · exact hr
      cases fl with
      | ret r =>
        obtain ⟨rfl, g, tk, m, rfl, st, hc, hm, kp⟩ := hr
        repeat (any_goals (first | assumption | wp_step))
        exact fin g tk m st hc hm kp
      | _ => exact hr.elim
  | _ => exact hr.elim
end
end StT

namespace StT
open PySem L2 PySem.Spec PyProof.Rows PySem.Froz
theorem perm_len {α : Type} [DecidableEq α] : ∀ {l m : List α}, l.Nodup → (∀ x ∈ l, x ∈ m) → m.length = l.length → l.Perm m
  | [], m, _, _, h => by
    have : m = [] := List.eq_nil_of_length_eq_zero h
    rw [this]
  | a :: l, m, nd, sub, h => by
    obtain ⟨n1, n2⟩ := List.nodup_cons.mp nd
    have ha : a ∈ m := sub a List.mem_cons_self
    have p := List.perm_cons_erase ha
    have e : (m.erase a).length = l.length := by
      rw [List.length_erase_of_mem ha, h]
      rfl
    exact ((perm_len n2 (fun x hx => (List.mem_erase_of_ne (show x ≠ a from fun z => n1 (by rw [← z]; exact hx))).mpr (sub x (List.mem_cons_of_mem _ hx))) e).cons a).trans p.symm
theorem nodup_len {α : Type} [DecidableEq α] : ∀ {l m : List α}, l.Nodup → (∀ x ∈ l, x ∈ m) → l.length ≤ m.length
  | [], _, _, _ => Nat.zero_le _
  | a :: l, m, nd, sub => by
    obtain ⟨n1, n2⟩ := List.nodup_cons.mp nd
    have ha : a ∈ m := sub a List.mem_cons_self
    have ih := nodup_len n2 (m := m.erase a) (fun x hx => (List.mem_erase_of_ne (show x ≠ a from fun z => n1 (by rw [← z]; exact hx))).mpr (sub x (List.mem_cons_of_mem _ hx)))
    have e := List.length_erase_of_mem ha
    have hp : 0 < m.length := List.length_pos_of_mem ha
    rw [List.length_cons]
    omega
section
variable {P : Program} {w : World} {A : Around} {E : Value → Shared → Prop} {s : Shared}
theorem sorted_set_strs {a : Addr} {m : List Str} {Q : Value → Shared → Prop} (R : SetT P w s.heap a m) (hh : A.handled = none) (hb : m.length < scanBound)
    (fin : ∀ (t : Shared) (p : Addr) (out : Array Value) (c : Nat) (ys : List Str), (∀ b o, s.heap.get? b = some o → t.heap.get? b = some o) → t.gens = s.gens → t.os = s.os → s.heap.objs.size ≤ p →
      t.heap.get? p = some (seqObj "list" out c) → StrsAre out.toList ys → ys.Perm m → sortedS ys = true → Q (.ref p) t) :
    wpAny (model P w) A (call (.builtin "sorted") [.ref a]) Q E s := by
  obtain ⟨⟨es, ep, tb⟩, at0, F, ri, le, nd⟩ := R
  have sz : es.size = m.length := F.sz
  refine Calls.call_function_entry kind_sorted plain_sorted entry_sorted (args_sorted1 _) ?_
  unfold Builtin.«sorted»
  refine wpAny_bind (m := checkCount "sorted" 1 1 _) (wpAny_pure ?_)
  refine wpAny_bind (collect_set (A := A.in1) hh ⟨_, at0, rfl, rfl⟩ F.fit (by rw [sz]; exact hb) ri le fun t1 us k1 hz g1 o1 pm => ?_)
  have ul : us.length = m.length := by rw [pm.length_eq, List.length_map, Array.length_toList]; exact sz
  have all : ∀ v ∈ us, ∃ (x : Str) (t : Tok), v = .str x t := fun v hv => by
    obtain ⟨e, he, q⟩ := List.mem_map.mp (pm.mem_iff.mp hv)
    have hk := F.el e he
    subst q
    obtain ⟨k, hk, _⟩ := hk.1
    cases ev : e.2 with
    | str x t => exact ⟨x, t, rfl⟩
    | _ =>
      rw [ev] at hk
      cases hk
  have S := strsAre_map us all
  have pk : m.Perm (us.map strOf) := by
    refine perm_len nd (fun x hx => ?_) (by rw [List.length_map, ul])
    obtain ⟨e, he, q⟩ := (F.mem x).mp hx
    have hv : e.2 ∈ us := pm.mem_iff.mpr (List.mem_map_of_mem he)
    refine List.mem_map.mpr ⟨e.2, hv, ?_⟩
    obtain ⟨y, t, ey⟩ := all _ hv
    rw [ey] at q ⊢
    exact ((PySem.strKind P w).inj (.str y t) x y q (is_str y t)).symm
  have us0 : us.length ≤ sizeLine := by rw [ul]; exact fits_of_scanBound hb
  refine wpAny_bind (wpAny_newList ?_ us0)
  have at1 : (t1.heap.push (seqObj "list" us.toArray 0)).get? t1.heap.objs.size = some (seqObj "list" us.toArray 0) := Heap.get?_push_size _ rfl
  refine wpAny_bind (wpAny_holding (wpAny_call_entry slot_list_sort ⟨_, at1, rfl⟩ entry_list_sort (list_sort_treeKAny strKind_oneLt at1 S.keysOf (fun x y r e => keyKind_strs (by rw [← e]; exact S)) us0 fun st a1 a2 => ⟨_, rfl, ?_⟩) (args_list_sort _)))
  obtain ⟨ys, b1, b2, b3⟩ := sorted_out_str S a1 a2
  obtain ⟨c, hc⟩ := sortedHeap_at (vs := us) (out := (arrOf st).map (·.2)) at1
  refine wpAny_pure ⟨_, rfl, fin _ t1.heap.objs.size _ c ys (fun b u e => ?_) g1 o1 hz hc b1 (b2.trans pk.symm) b3⟩
  have q := k1 b u e
  have lt := Heap.lt_size q
  show (sortedHeap (t1.heap.push (seqObj "list" us.toArray 0)) t1.heap.objs.size us ((arrOf st).map (·.2))).get? b = some u
  rw [sortedHeap_old (Nat.ne_of_lt lt) (by rw [size_push']; exact Nat.lt_succ_of_lt lt)]
  exact Heap.get?_push_of_some _ q
end
/-! ### as rules -/
def SetS (P : Program) (w : World) (a : Addr) (m : List Str) : HO := .ext fun h => SetT P w h a m
theorem vals_strs : ∀ {us : List Value} {ys : List Str}, StrsAre us ys → Vals (ys.map V.str) us
  | _, _, .nil => .nil
  | _, _, .cons x t r => .cons ⟨t, rfl⟩ (vals_strs r)
section
variable {X : Cx}
def rSetS (K : PySem.W.Frag) (P : Program) (w : World) : List V → Hp → VK → Prop := fun vs H Q => ∃ (l : Addr) (xs : List Str), vs = [V.ref l] ∧ SqL K H l (xs.map V.str) ∧ xs.length ≤ 1000 ∧
  ∀ (p : Addr) (m : List Str), H p = none → (∀ x, x ∈ m ↔ x ∈ xs) → m.Nodup → m.length ≤ xs.length → Q (.ref p) (upd H p (SetS P w p m))
theorem cr_setS (hc : X.calm = true) : CallR X (.type "set") (rSetS X.K X.prog X.w) := by
  intro pins s σ H vs us Q I r h
  obtain ⟨l, xs, rfl, hl, hx, q⟩ := h
  rw [Vals.ref1 r]
  obtain ⟨its, rv, il, _⟩ := I.list hl
  refine call_set_strs xs (I.ok.hd hc) il.isList (by simpa using rv.strs) (Nat.lt_of_le_of_lt (Nat.succ_le_succ hx) (by decide)) fun g tk m st hm1 hm2 kp => ?_
  have hn : H s.heap.objs.size = none := I.hok.fresh (Nat.le_refl _)
  have ok : ObjOk X.prog X.w (upd H s.heap.objs.size (SetS X.prog X.w s.heap.objs.size m)) g s.heap.objs.size (SetS X.prog X.w s.heap.objs.size m) := by
    have ⟨D, h1, _⟩ := st
    exact ⟨st, ⟨_, h1⟩, fun h1 h2 p k => SetT.at p k⟩
  exact ⟨.ref s.heap.objs.size, _, I.laid (t' := tk) kp (Nat.le_refl _) ok, rfl, q _ m hn hm2 (let ⟨_, _, _, _, _, nd⟩ := st; nd) hm1⟩
def rSrtS (P : Program) (w : World) : List V → Hp → VK → Prop := fun vs H Q => ∃ (a : Addr) (m : List Str), vs = [V.ref a] ∧ H a = some (SetS P w a m) ∧ m.length ≤ 1000 ∧
  ∀ (p : Addr) (ys : List Str), H p = none → ys.Perm m → sortedS ys = true → Q (.ref p) (upd H p (.lst (ys.map V.str)))
theorem cr_srtS (hc : X.calm = true) : CallR X (.builtin "sorted") (rSrtS X.prog X.w) := by
  intro pins s σ H vs us Q I r h
  obtain ⟨a, m, rfl, ha, hm, q⟩ := h
  have R : SetT X.prog X.w s.heap a m := (I.hok a _ ha).1
  rw [Vals.ref1 r]
  refine sorted_set_strs R (I.ok.hd hc) (Nat.lt_of_le_of_lt hm (by decide)) fun t p out c ys kp g o hp at1 hi pm st => ?_
  have len : (ys.map V.str).length ≤ sizeLine := by
    rw [List.length_map, pm.length_eq]
    exact Nat.le_trans hm (by decide)
  have hn : H p = none := I.hok.fresh hp
  have J : Inv X pins σ (upd H p (.lst (ys.map V.str))) { s with heap := t.heap, gens := t.gens, drawn := t.drawn, toks := t.toks } :=
    I.call (ch := []) (Un.laid kp hp hn) (I.hok.laid kp hp ⟨len, out.toList, c, vals_strs hi, at1⟩) (by rw [g]; exact I.bare) (fun _ z => nomatch z)
  have e : t = { s with heap := t.heap, gens := t.gens, drawn := t.drawn, toks := t.toks } := by
    rw [← o]
  rw [e]
  exact ⟨.ref p, _, J, rfl, q p ys hn pm st⟩
end
end StT

/-! the drawn world in the heap -/
namespace Lg
open PySem L2 TL
/-- where the world's parts lie -/
structure WA where
  wa : Addr
  ra : Addr
  ru : Addr
  lo : Addr
  en : Addr
  un : Addr
  li : Addr
  ce : Addr
  me : Addr
  co : Addr
def WA.own (A : WA) : List Addr := [A.wa, A.ra, A.ru, A.lo, A.en, A.un, A.li, A.ce, A.me, A.co]
def WA.kvs (A : WA) : List (Key × V) := [(Sum.inr "rows", .ref A.ra), (Sum.inr "run", .ref A.ru), (Sum.inr "locks", .ref A.lo), (Sum.inr "ended", .ref A.en), (Sum.inr "unborn", .ref A.un), (Sum.inr "live", .ref A.li), (Sum.inr "cells", .ref A.ce), (Sum.inr "memory", .ref A.me), (Sum.inr "counters", .ref A.co)]
/-- what the world holds -/
structure WS where
  rows : Rows
  run : List Str
  lk : Str → Str → Option Str
  ended : List Str
  unborn : List Str
  live : List Str
  cells : List Str
abbrev lockNames : List Str := ["l", "m", "n"]
abbrev cntNames : List Str := ["s", "t"]
abbrev cellNames : List Str := ["x", "y", "z"]
abbrev Lkk (l t : Str) : List Key := [Sum.inr l, Sum.inr t]
structure LkAt (kvs : List (List Key × V)) (lk : Str → Str → Option Str) (n : Nat) : Prop where
  val : ∀ l t, valV kvs (Lkk l t) = (lk l t).map V.str
  key : ∀ kv ∈ kvs, ∃ l t, kv.1 = Lkk l t ∧ l ∈ lockNames ∧ t ∈ thrNames
  word : ∀ l t w, lk l t = some w → w = "lock" ∨ w = "share"
  len : kvs.length ≤ n
structure WorldAt (K : PySem.W.Frag) (H : Hp) (A : WA) (α : Str → Addr) (ns : List Str) (n : Nat) (S : WS) : Prop where
  wd : H A.wa = some (.dK A.kvs)
  rw : H A.ra = some (.dK (ns.map fun t => ((Sum.inr t : Key), V.ref (α t))))
  row : ∀ t ∈ ns, ∃ xs, H (α t) = some (.lst xs) ∧ Paired (EvAt K H) xs (rowOf S.rows t)
  run : H A.ru = some (.lst (S.run.map V.str))
  loc : ∃ kvs, H A.lo = some (.dT kvs) ∧ LkAt kvs S.lk n
  en : H A.en = some (.lst (S.ended.map V.str))
  un : H A.un = some (.lst (S.unborn.map V.str))
  li : H A.li = some (.lst (S.live.map V.str))
  ce : H A.ce = some (.lst (S.cells.map V.str))
  me : ∃ kvs, H A.me = some (.dK kvs) ∧ (∀ c ∈ S.cells, ∃ i, valV kvs (Sum.inr c) = some (.int i)) ∧ kvs.length ≤ n
  co : ∃ i j, H A.co = some (.dK [(Sum.inr "s", .int i), (Sum.inr "t", .int j)])
  nd : (A.own ++ ns.map α).Nodup
  sz : S.run.length ≤ n
  cs : S.cells ≠ [] ∧ S.cells.length ≤ 3 ∧ ∀ c ∈ S.cells, c ∈ cellNames
theorem sql_ne {K : PySem.W.Frag} {nt : Bool} {l : List Addr} {H H' : Hp} {a : Addr} {xs : List V} (s : StepB nt l H H') (ha : a ∉ l) (h : SqL K H a xs) : SqL K H' a xs := by
  rcases h with (h | ⟨o, h⟩) | h
  · exact .inl (.inl (s.oth a _ ha rfl h))
  · exact .inl (.inr ⟨o, s.oth a _ ha rfl h⟩)
  · exact .inr h
theorem WorldAt.step {K : PySem.W.Frag} {nt : Bool} {l : List Addr} {H H' : Hp} {A : WA} {α : Str → Addr} {ns : List Str} {n : Nat} {S : WS} (h : WorldAt K H A α ns n S) (s : StepB nt l H H') (hl : ∀ b ∈ l, b ∉ A.own ++ ns.map α) : WorldAt K H' A α ns n S := by
  have q : ∀ b u, b ∈ A.own → tblO u = false → H b = some u → H' b = some u := fun b u hb ht e => s.oth b u (fun z => hl b z (List.mem_append_left _ hb)) ht e
  obtain ⟨lk, lk1, lk2⟩ := h.loc
  obtain ⟨mk, mk1, mk2⟩ := h.me
  obtain ⟨i, j, co⟩ := h.co
  refine ⟨q _ _ (by simp [WA.own]) rfl h.wd, q _ _ (by simp [WA.own]) rfl h.rw, fun t ht => ?_, q _ _ (by simp [WA.own]) rfl h.run, ⟨lk, q _ _ (by simp [WA.own]) rfl lk1, lk2⟩, q _ _ (by simp [WA.own]) rfl h.en, q _ _ (by simp [WA.own]) rfl h.un, q _ _ (by simp [WA.own]) rfl h.li, q _ _ (by simp [WA.own]) rfl h.ce,
    ⟨mk, q _ _ (by simp [WA.own]) rfl mk1, mk2⟩, ⟨i, j, q _ _ (by simp [WA.own]) rfl co⟩, h.nd, h.sz, h.cs⟩
  obtain ⟨xs, h1, h2⟩ := h.row t ht
  exact ⟨xs, s.oth _ _ (fun z => hl _ z (List.mem_append_right _ (List.mem_map_of_mem ht))) rfl h1, evs_step s h2⟩
theorem WorldAt.same {K : PySem.W.Frag} {H H' : Hp} {A : WA} {α : Str → Addr} {ns : List Str} {n : Nat} {S : WS} (h : WorldAt K H A α ns n S) (s : Same H H') : WorldAt K H' A α ns n S := h.step (nt := true) (l := []) (.of s) (by simp)
/-- what stands at a key of the world -/
theorem WorldAt.get {K : PySem.W.Frag} {H : Hp} {A : WA} {α : Str → Addr} {ns : List Str} {n : Nat} {S : WS} (h : WorldAt K H A α ns n S) {k : Str} {v : V} (e : valV A.kvs (Sum.inr k) = some v) : DGet H A.wa (.str k) (some v) := by
  rw [← e]
  exact DGet.k (k := Sum.inr k) h.wd
theorem kv_rows (A : WA) : valV A.kvs (Sum.inr "rows") = some (.ref A.ra) := rfl
theorem kv_run (A : WA) : valV A.kvs (Sum.inr "run") = some (.ref A.ru) := rfl
theorem kv_locks (A : WA) : valV A.kvs (Sum.inr "locks") = some (.ref A.lo) := rfl
theorem kv_ended (A : WA) : valV A.kvs (Sum.inr "ended") = some (.ref A.en) := rfl
theorem kv_unborn (A : WA) : valV A.kvs (Sum.inr "unborn") = some (.ref A.un) := rfl
theorem kv_live (A : WA) : valV A.kvs (Sum.inr "live") = some (.ref A.li) := rfl
theorem kv_cells (A : WA) : valV A.kvs (Sum.inr "cells") = some (.ref A.ce) := rfl
theorem kv_memory (A : WA) : valV A.kvs (Sum.inr "memory") = some (.ref A.me) := rfl
theorem kv_counters (A : WA) : valV A.kvs (Sum.inr "counters") = some (.ref A.co) := rfl
/-- an event that thread t of this world may do next -/
structure EvFit (S : WS) (t : Str) (e : Ev) : Prop where
  ok : e.ok
  kind : kdOf e.w ≠ .lone → ∀ x, e.o = some x → κ0 x = kdOf e.w
  fork : e.w = "fork" → ∀ x, e.o = some x → x ∈ S.unborn
  join : e.w = "join" → ∀ x, e.o = some x → x ≠ t ∧ x ∈ S.ended
  held : ∃ h', heldE (fun l => S.lk l t) e = some h'
  cell : kdOf e.w = .cell → ∀ x, e.o = some x → x ∈ S.cells
theorem st_par {i j : Nat} {ta : TA} {u : TS} {D : Ends} {σ : St} {H : Hp} (h : ta σ H fun vs H1 => ∃ v w, vs = [v, w] ∧ u D ((σ.set i (some v)).set j (some w)) H1) : tSeq (tPar i j ta) u D σ H := h
theorem WellAt.same {H H' : Hp} {a : Addr} (h : WellAt H a) (s : Same H H') : WellAt H' a := let ⟨x, y, z⟩ := h; ⟨x, y, s _ _ z⟩
/-- a test: is a word among these -/
theorem in_tup {K : PySem.W.Frag} {H : Hp} {w : Str} (l : List Str) {A B : Hp → Prop} (hl : l.length ≤ 100) (h : ∀ H', Same H H' → if decide (w ∈ l) = true then A H' else B H') :
    l.length ≤ sizeLine ∧ ∀ q, H q = none → ∃ p ys, V.ref q = V.ref p ∧ (SqL K (upd H q (.tup (l.map V.str))) p ys ∨ SqT K (upd H q (.tup (l.map V.str))) p ys) ∧ flatV (.str w) = true ∧ ys.all flatV = true ∧
      ∃ k, V.bl (inV (.str w) ys) = V.bl k ∧ if k = true then A (upd H q (.tup (l.map V.str))) else B (upd H q (.tup (l.map V.str))) := by
  refine ⟨Nat.le_trans hl (by decide), fun q hq => ⟨q, l.map V.str, rfl, .inr (SqT.of upd_same), rfl, all_flat l, _, rfl, ?_⟩⟩
  rw [in_strs]
  exact h _ (same_new hq)
/-! ### events that fit -/
theorem κ0_cell {x : Str} (h : x ∈ cellNames) : κ0 x = .cell ∧ nameOk x = true := by
  simp only [cellNames, List.mem_cons, List.mem_nil_iff, or_false] at h
  rcases h with rfl | rfl | rfl <;> exact ⟨rfl, by decide +kernel⟩
theorem κ0_lock {x : Str} (h : x ∈ lockNames) : κ0 x = .lock ∧ nameOk x = true := by
  simp only [lockNames, List.mem_cons, List.mem_nil_iff, or_false] at h
  rcases h with rfl | rfl | rfl <;> exact ⟨rfl, by decide +kernel⟩
theorem κ0_cnt {x : Str} (h : x ∈ cntNames) : κ0 x = .counter ∧ nameOk x = true := by
  simp only [cntNames, List.mem_cons, List.mem_nil_iff, or_false] at h
  rcases h with rfl | rfl <;> exact ⟨rfl, by decide +kernel⟩
theorem fit_cell {S : WS} {t w c : Str} {z : Vl} (hw : w ∈ (["read", "write", "swap"] : List Str)) (hc : c ∈ S.cells) (hs : ∀ c ∈ S.cells, c ∈ cellNames) (hz : if w = "swap" then ∃ i j, z = .two i j else ∃ i, z = .one i) : EvFit S t ⟨w, some c, z⟩ := by
  have hk : kdOf w = .cell := by
    simp only [List.mem_cons, List.mem_nil_iff, or_false] at hw
    rcases hw with rfl | rfl | rfl <;> rfl
  have hn : w ≠ "fork" ∧ w ≠ "join" := by
    refine ⟨fun e => ?_, fun e => ?_⟩ <;> (rw [e] at hk; cases hk)
  refine ⟨?_, fun _ x e => ?_, fun e => absurd e hn.1, fun e => absurd e hn.2, ?_, fun _ x e => ?_⟩
  · unfold Ev.ok
    dsimp only
    rw [hk]
    exact ⟨⟨c, rfl, (κ0_cell (hs c hc)).2⟩, hz⟩
  · cases e
    rw [hk]
    exact (κ0_cell (hs c hc)).1
  · unfold heldE
    dsimp only
    rw [hk]
    exact ⟨_, rfl⟩
  · cases e
    exact hc
theorem fit_lk {S : WS} {t w l : Str} {h' : Str → Option Str} (hk : kdOf w = .lock) (hl : l ∈ lockNames) (hg : heldGo (fun l => S.lk l t) w l = some h') : EvFit S t ⟨w, some l, .non⟩ := by
  have hn : w ≠ "fork" ∧ w ≠ "join" := by
    refine ⟨fun e => ?_, fun e => ?_⟩ <;> (rw [e] at hk; cases hk)
  refine ⟨?_, fun _ x e => ?_, fun e => absurd e hn.1, fun e => absurd e hn.2, ?_, fun e x _ => ?_⟩
  · unfold Ev.ok
    dsimp only
    rw [hk]
    exact ⟨⟨l, rfl, (κ0_lock hl).2⟩, rfl⟩
  · cases e
    rw [hk]
    exact (κ0_lock hl).1
  · unfold heldE
    dsimp only
    rw [hk]
    exact ⟨_, hg⟩
  · dsimp only at e
    rw [hk] at e
    cases e
theorem fit_lock {S : WS} {t w l : Str} (hw : w ∈ (["lock", "share"] : List Str)) (hl : l ∈ lockNames) (hg : S.lk l t = none) : EvFit S t ⟨w, some l, .non⟩ := by
  have hk : kdOf w = .lock := by
    simp only [List.mem_cons, List.mem_nil_iff, or_false] at hw
    rcases hw with rfl | rfl <;> rfl
  refine fit_lk (h' := fun y => if y = l then some w else S.lk y t) hk hl ?_
  unfold heldGo
  rw [if_pos hw, if_pos hg]
theorem fit_unlock {S : WS} {t w l : Str} (hl : l ∈ lockNames) (hw : w = "lock" ∨ w = "share") (hg : S.lk l t = some w) : EvFit S t ⟨if w = "lock" then "unlock" else "unshare", some l, .non⟩ := by
  refine fit_lk (h' := fun y => if y = l then none else S.lk y t) (by rcases hw with rfl | rfl <;> rfl) hl ?_
  unfold heldGo
  rcases hw with rfl | rfl
  · exact (if_neg (by decide +kernel)).trans (if_pos (hg.trans rfl))
  · exact (if_neg (by decide +kernel)).trans (if_pos (hg.trans rfl))
theorem fit_cnt {S : WS} {t w c : Str} (hw : w ∈ (["up", "down"] : List Str)) (hc : c ∈ cntNames) : EvFit S t ⟨w, some c, .non⟩ := by
  have hk : kdOf w = .counter := by
    simp only [List.mem_cons, List.mem_nil_iff, or_false] at hw
    rcases hw with rfl | rfl <;> rfl
  have hn : w ≠ "fork" ∧ w ≠ "join" := by
    refine ⟨fun e => ?_, fun e => ?_⟩ <;> (rw [e] at hk; cases hk)
  refine ⟨?_, fun _ x e => ?_, fun e => absurd e hn.1, fun e => absurd e hn.2, ?_, fun e x _ => ?_⟩
  · unfold Ev.ok
    dsimp only
    rw [hk]
    exact ⟨⟨c, rfl, (κ0_cnt hc).2⟩, rfl⟩
  · cases e
    rw [hk]
    exact (κ0_cnt hc).1
  · unfold heldE
    dsimp only
    rw [hk]
    exact ⟨_, rfl⟩
  · dsimp only at e
    rw [hk] at e
    cases e
theorem fit_thr {S : WS} {t w x : Str} (hw : w = "fork" ∧ x ∈ S.unborn ∨ w = "join" ∧ x ≠ t ∧ x ∈ S.ended) (hx : x ∈ thrNames) : EvFit S t ⟨w, some x, .non⟩ := by
  have hk : kdOf w = .thread := by rcases hw with ⟨rfl, _⟩ | ⟨rfl, _⟩ <;> rfl
  refine ⟨?_, fun _ y e => ?_, fun e y ey => ?_, fun e y ey => ?_, ?_, fun e y _ => ?_⟩
  · unfold Ev.ok
    dsimp only
    rw [hk]
    exact ⟨⟨x, rfl, (κ0_thr hx).2⟩, rfl⟩
  · cases e
    rw [hk]
    exact (κ0_thr hx).1
  · cases ey
    rcases hw with ⟨_, h⟩ | ⟨h, _⟩
    · exact h
    · exact absurd (h.symm.trans e) (by decide +kernel)
  · cases ey
    rcases hw with ⟨h, _⟩ | ⟨_, h⟩
    · exact absurd (h.symm.trans e) (by decide +kernel)
    · exact h
  · unfold heldE
    dsimp only
    rw [hk]
    exact ⟨_, rfl⟩
  · dsimp only at e
    rw [hk] at e
    cases e
theorem fit_lone {S : WS} {t w : Str} (hw : w ∈ wLone) : EvFit S t ⟨w, none, .non⟩ := by
  have hk := kd_lone hw
  have hn : w ≠ "fork" ∧ w ≠ "join" := by
    refine ⟨fun e => ?_, fun e => ?_⟩ <;> (rw [e] at hk; cases hk)
  refine ⟨?_, fun h => absurd hk h, fun e => absurd e hn.1, fun e => absurd e hn.2, ?_, fun e x _ => ?_⟩
  · unfold Ev.ok
    dsimp only
    rw [hk]
    exact ⟨hw, rfl, rfl⟩
  · unfold heldE
    dsimp only
    rw [hk]
    exact ⟨_, rfl⟩
  · dsimp only at e
    rw [hk] at e
    cases e
end Lg

/-! the pairs of the world's locks, listed -/
namespace Lg
open PySem L2 TL
def sel (j : Nat) (l t : Str) : Str := if j = 0 then l else t
/-- a list of pairs of texts at D -/
def PairsAt (H : Hp) (bs : List SrP.B) : Prop := ∀ b ∈ bs, H b.1 = some (.tup [.str b.2.1, .str b.2.2])
abbrev refs (bs : List SrP.B) : List V := bs.map fun b => V.ref b.1
theorem PairsAt.step {nt : Bool} {l : List Addr} {H H' : Hp} {bs : List SrP.B} (s : StepB nt l H H') (h : PairsAt H bs) : PairsAt H' bs := fun b hb => s.tup _ _ rfl (h b hb)
theorem PairsAt.dp {K : PySem.W.Frag} {H : Hp} : ∀ {bs : List SrP.B}, PairsAt H bs → DpAll K H (refs bs) (bs.map SrP.enc)
  | [], _ => .nil
  | b :: bs, h => .cons (.tup (SqT.of (h b List.mem_cons_self)) (.cons (.str _) (.cons (.str _) .nil))) (PairsAt.dp fun c hc => h c (List.mem_cons_of_mem _ hc))
theorem enc_good {bs : List SrP.B} (h : ∀ b ∈ bs, PyData.strOk b.2.1 = true ∧ PyData.strOk b.2.2 = true) : ∀ d ∈ bs.map SrP.enc, GoodD d := fun d hd => by
  obtain ⟨b, hb, rfl⟩ := List.mem_map.mp hd
  obtain ⟨h1, h2⟩ := h b hb
  exact ⟨by simp [SrP.enc, PyData.canLay0, PyData.canLayAll0, h1, h2], by simp [SrP.enc, PyData.depth, PyData.depthAll]⟩
theorem rd_pairs {K : PySem.W.Frag} {H : Hp} {lo : Addr} {od : Obj} {kvs : List (List Key × V)} {j s : Nat} {x : Str} {w0 w1 w2 w3 w4 w6 w7 w8 w9 w10 w11 w12 w13 w14 w15 : Option V} {Q : VK} (hj : j = 0 ∨ j = 1)
    (hs : ∀ v, [w0, w1, w2, w3, w4, some (.ref lo), w6, w7, w8, w9, w10, w11, w12, w13, v, w15][s]? = some (some (.str x))) (hlo : H lo = some (.frz od (.dT kvs))) (hk : ∀ kv ∈ kvs, ∃ l t, kv.1 = Lkk l t) (hl : kvs.length ≤ 500)
    (h : ∀ H' D bs, Same H H' → H D = none → H' D = some (.lst (refs bs)) → PairsAt H' bs → bs.length ≤ 500 → (∀ l t, (∃ a, (a, l, t) ∈ bs) ↔ (∃ v, (Lkk l t, v) ∈ kvs) ∧ sel j l t = x) → Q (.ref D) H') :
    tLc (iKeys (tVar 5)) (gName 14) (tTest (tOp rEq (tOp (rIxT K) (tVar 14) (tC (V.int (j : Nat)))) (tVar s))) (tVar 14) [14] [w0, w1, w2, w3, w4, some (.ref lo), w6, w7, w8, w9, w10, w11, w12, w13, w14, w15] H Q := by
  refine ⟨_, rfl, lo, od, rfl, .inr ⟨kvs, hlo, fun D hD => ?_⟩⟩
  refine lc_it (walk_keysT (d := lo) (o := od) (kvs := kvs)) (AccP H D fun i acc H' => ∃ bs : List SrP.B, acc = refs bs ∧ PairsAt H' bs ∧ bs.length ≤ i ∧ ∀ l t, (∃ a, (a, l, t) ∈ bs) ↔ (∃ v, (Lkk l t, v) ∈ kvs.take i) ∧ sel j l t = x)
    (acc0 hD ⟨[], rfl, fun b hb => by simp at hb, Nat.le_refl _, fun l t => by simp⟩) (fun i H' _ q => q.1 _ _ hlo) ?_ ?_
  · rintro i y H1 H2 hi ⟨s1, acc, hD1, bs, rfl, hbs, hbl, hmem⟩ ⟨rfl, k, v, q, hkv, rfl, hq⟩
    obtain ⟨l, t, hlt⟩ := hk _ (List.mem_of_getElem? hkv)
    have hlt : k = Lkk l t := hlt
    subst hlt
    have hq : H2 q = some (.tup [.str l, .str t]) := hq
    refine ⟨rfl, ?_⟩
    have hat : atI [V.str l, V.str t] (j : Nat) = some (.str (sel j l t)) := by
      rcases hj with rfl | rfl
      · exact atI_nat (j := 0) rfl
      · exact atI_nat (j := 1) rfl
    have htk : ∀ l' t', (∃ v, (Lkk l' t', v) ∈ kvs.take (i + 1)) ↔ (∃ v, (Lkk l' t', v) ∈ kvs.take i) ∨ (l' = l ∧ t' = t) := fun l' t' => by
      rw [List.take_add_one, hkv]
      constructor
      · rintro ⟨v', hv'⟩
        rcases List.mem_append.mp hv' with h1 | h1
        · exact .inl ⟨v', h1⟩
        · simp at h1
          exact .inr ⟨h1.1.1, h1.1.2⟩
      · rintro (⟨v', h1⟩ | ⟨rfl, rfl⟩)
        · exact ⟨v', List.mem_append_left _ h1⟩
        · exact ⟨v, List.mem_append_right _ (by simp)⟩
    refine ⟨_, rfl, q, _, _, _, rfl, rfl, SqT.of hq, hat, _, hs _, rfl, _, rfl, ?_⟩
    by_cases hx : sel j l t = x
    · refine ifT (by rw [hx]) ?_
      refine ⟨_, rfl, ?_⟩
      refine acc_put hD s1 hD1 (by rw [List.length_map]; exact Nat.lt_of_le_of_lt (show bs.length ≤ 1000 by omega) (by decide)) ?_
      refine ⟨bs ++ [(q, l, t)], by simp [refs], ?_, by simp; omega, fun l' t' => ?_⟩
      · intro b hb
        have st : Step [D] H2 (upd H2 D (.lst (refs bs ++ [.ref q]))) := .put hD1 rfl
        rcases List.mem_append.mp hb with h1 | h1
        · exact st.tup _ _ rfl (hbs b h1)
        · rw [List.mem_singleton.mp h1]
          exact st.tup _ _ rfl hq
      · rw [htk]
        constructor
        · rintro ⟨a, ha⟩
          rcases List.mem_append.mp ha with h1 | h1
          · obtain ⟨h2, h3⟩ := (hmem l' t').mp ⟨a, h1⟩
            exact ⟨.inl h2, h3⟩
          · cases List.mem_singleton.mp h1
            exact ⟨.inr ⟨rfl, rfl⟩, hx⟩
        · rintro ⟨h1 | ⟨rfl, rfl⟩, h2⟩
          · obtain ⟨a, ha⟩ := (hmem l' t').mpr ⟨h1, h2⟩
            exact ⟨a, List.mem_append_left _ ha⟩
          · exact ⟨q, List.mem_append_right _ (by simp)⟩
    · refine ifF (fun z => hx (V.str.inj z)) ?_
      refine ⟨s1, _, hD1, bs, rfl, hbs, by omega, fun l' t' => ?_⟩
      rw [htk, hmem]
      constructor
      · rintro ⟨h1, h2⟩
        exact ⟨.inl h1, h2⟩
      · rintro ⟨h1 | ⟨rfl, rfl⟩, h2⟩
        · exact ⟨h1, h2⟩
        · exact absurd h2 hx
  · rintro H1 ⟨s1, acc, hD1, bs, rfl, hbs, hbl, hmem⟩
    rw [List.take_of_length_le (Nat.le_refl _)] at hmem
    exact h H1 D bs s1 hD hD1 hbs (by omega) hmem
theorem rd_pairs2 {K : PySem.W.Frag} {H : Hp} {lo D0 : Addr} {kvs : List (List Key × V)} {lk : Str → Str → Option Str} {n : Nat} {t : Str} {bs : List SrP.B} {w0 w1 w3 w4 w6 w7 w8 w9 w11 w12 w13 w14 w15 : Option V} {Q : VK} (hlo : H lo = some (.dT kvs)) (hlk : LkAt kvs lk n)
    (hb : H D0 = some (.lst (refs bs))) (hp : PairsAt H bs) (hl : bs.length ≤ 500) (hin : ∀ b ∈ bs, ∃ v, (Lkk b.2.1 b.2.2, v) ∈ kvs)
    (h : ∀ H' D cs, Same H H' → H D = none → H' D = some (.lst (refs cs)) → PairsAt H' cs → cs.length ≤ 500 → (∀ c ∈ cs, c ∈ bs) → (∀ b ∈ bs, b.2.2 = t → b ∈ cs) → Q (.ref D) H') :
    tLc (iList K (tVar 10)) (gName 14) (tOr (tTest (tOp rEq (tDGet (tVar 5) (tVar 14)) (tC (V.str "lock")))) (tTest (tOp rEq (tOp (rIxT K) (tVar 14) (tC (V.int 1))) (tVar 2)))) (tVar 14) [14]
      [w0, w1, some (.str t), w3, w4, some (.ref lo), w6, w7, w8, w9, some (.ref D0), w11, w12, w13, w14, w15] H Q := by
  refine ⟨_, rfl, D0, rfl, ⟨_, SqL.of hb⟩, fun D hD => ?_⟩
  refine lc_it (walk_list (K := K) (a := D0) (xs := refs bs)) (AccP H D fun i acc H' => ∃ cs : List SrP.B, acc = refs cs ∧ PairsAt H' cs ∧ cs.length ≤ i ∧ (∀ c ∈ cs, c ∈ bs) ∧ ∀ b ∈ bs.take i, b.2.2 = t → b ∈ cs)
    (acc0 hD ⟨[], rfl, fun b hb => by simp at hb, Nat.le_refl _, fun b hb => by simp at hb, fun b hb => by simp at hb⟩) (fun i H' _ q => SqL.of (q.1 _ _ hb)) ?_ ?_
  · rintro i y H1 H2 hi ⟨s1, acc, hD1, cs, rfl, hcs, hcl, hc1, hc2⟩ ⟨rfl, hx⟩
    have hi' : i < bs.length := by rwa [List.length_map] at hi
    rw [List.getElem?_map] at hx
    obtain ⟨b, hbi, rfl⟩ := Option.map_eq_some_iff.mp hx
    have hbm := List.mem_of_getElem? hbi
    obtain ⟨q, l, t'⟩ := b
    have hq : H2 q = some (.tup [.str l, .str t']) := s1 _ _ (hp _ hbm)
    have hlo2 := s1 _ _ hlo
    obtain ⟨v0, hv0⟩ := hin _ hbm
    have hv1 : ∃ wd, lk l t' = some wd := by
      have e := hlk.val l t'
      cases q1 : lk l t' with
      | some z => exact ⟨z, rfl⟩
      | none =>
        rw [q1] at e
        exact absurd (List.mem_map.mpr ⟨_, hv0, rfl⟩) (valV_not (k := Lkk l t') e)
    obtain ⟨wd, hwd⟩ := hv1
    have keep : ∃ acc', H2 D = some (.lst acc') ∧ acc'.length < sizeLine ∧ AccP H D (fun i acc H' => ∃ cs : List SrP.B, acc = refs cs ∧ PairsAt H' cs ∧ cs.length ≤ i ∧ (∀ c ∈ cs, c ∈ bs) ∧ ∀ b ∈ bs.take i, b.2.2 = t → b ∈ cs) (i + 1) (upd H2 D (.lst (acc' ++ [.ref q]))) := by
      refine acc_put hD s1 hD1 (by rw [List.length_map]; exact Nat.lt_of_le_of_lt (show cs.length ≤ 1000 by omega) (by decide)) ?_
      have st : Step [D] H2 (upd H2 D (.lst (refs cs ++ [.ref q]))) := .put hD1 rfl
      refine ⟨cs ++ [(q, l, t')], by simp [refs], ?_, by simp; omega, ?_, ?_⟩
      · intro b hb'
        rcases List.mem_append.mp hb' with h1 | h1
        · exact st.tup _ _ rfl (hcs b h1)
        · rw [List.mem_singleton.mp h1]
          exact st.tup _ _ rfl hq
      · intro b hb'
        rcases List.mem_append.mp hb' with h1 | h1
        · exact hc1 b h1
        · rw [List.mem_singleton.mp h1]
          exact hbm
      · intro b hb' hbt
        rw [List.take_add_one, hbi] at hb'
        rcases List.mem_append.mp hb' with h1 | h1
        · exact List.mem_append_left _ (hc2 b h1 hbt)
        · simp at h1
          rw [h1]
          exact List.mem_append_right _ (by simp)
    refine ⟨rfl, ?_⟩
    refine ⟨_, rfl, _, rfl, lo, _, rfl, by rw [← (show (some wd).map V.str = some (V.str wd) from rfl), ← hwd, ← hlk.val l t']; exact DGet.t (k := Lkk l t') hlo2 hq, rfl, _, rfl, ?_⟩
    refine ite2 (fun _ => ?_) (fun _ => ?_)
    · refine iteT ?_
      exact ⟨_, rfl, keep⟩
    · refine ⟨_, rfl, q, _, _, _, rfl, rfl, SqT.of hq, atI_nat (j := 1) rfl, _, rfl, rfl, _, rfl, ?_⟩
      by_cases hx : t' = t
      · refine ifT (by rw [hx]) ?_
        exact ⟨_, rfl, keep⟩
      · refine ifF (fun z => hx (V.str.inj z)) ?_
        refine ⟨s1, _, hD1, cs, rfl, hcs, by omega, hc1, fun b hb' hbt => ?_⟩
        rw [List.take_add_one, hbi] at hb'
        rcases List.mem_append.mp hb' with h1 | h1
        · exact hc2 b h1 hbt
        · simp at h1
          rw [h1] at hbt
          exact absurd hbt hx
  · rintro H1 ⟨s1, acc, hD1, cs, rfl, hcs, hcl, hc1, hc2⟩
    rw [List.length_map] at hcl hc2
    rw [List.take_of_length_le (Nat.le_refl _)] at hc2
    exact h H1 D cs s1 hD hD1 hcs (by omega) hc1 hc2
end Lg

namespace Lg
open PySem L2 TL
section
variable {P : Program} {w : World} {K : PySem.W.Frag} {mg : Str → Option Value} {base : Heap} {f : Addr} {fd : FuncData}
abbrev s_law_event : Stmt := top 33
theorem sc_law_event : FnScope ["_law_well_here", "_law_world", "_law_thread", "_law_words_here", "_law_word", "_law_has", "_law_cell", "_law_value", "_law_new", "_law_lock", "_law_others", "_law_own", "_law_counter", "_law_ended", "_law_pair", "_law_name"] ["_law_well_here", "_law_world", "_law_thread", "_law_words_here"] (defScope s_law_event) := ⟨rfl, rfl, rfl, by decide +kernel, rfl, by decide +kernel, by decide +kernel⟩
def spLE (K : PySem.W.Frag) : Sp := fun vs H Q _ => ∃ (a wl : Addr) (A : WA) (α : Str → Addr) (ns : List Str) (n : Nat) (S : WS) (t : Str) (ws : List Str), vs = [.ref a, .ref A.wa, .str t, .ref wl] ∧ WellAt H a ∧ a ∉ A.own ++ ns.map α ∧ WorldAt K H A α ns n S ∧ n ≤ 500 ∧
  SqL K H wl (ws.map V.str) ∧ wl ≠ a ∧ 0 < ws.length ∧ ws.length ≤ 100 ∧ (∀ x ∈ ws, x ∈ drawWords) ∧ S.unborn.length ≤ 500 ∧ S.ended.length ≤ 500 ∧ (∀ x ∈ S.unborn ++ S.ended, x ∈ thrNames) ∧
  (∀ H', Step [a] H H' → WellAt H' a → Q .non H') ∧ ∀ H' v e, Step [a] H H' → WellAt H' a → EvAt K H' v e → EvFit S t e → Q v H'
theorem ok_law_event (F : Fun K "_law_event" "_law_event" s_law_event f fd) (T : Gb K mg) (cDraw : C0 P w K mg base 1 "_law_draw" ["_law_well_here", "_law_many"] spDraw) (cOne : C0 P w K mg base 2 "_law_one" ["_law_well_here", "_law_some"] (spOne K)) :
    FnOk P w K mg base CX0 3 f fd ["_law_well_here", "_law_world", "_law_thread", "_law_words_here"] (spLE K) := by
  obtain ⟨_, _, cDraw⟩ := cDraw
  obtain ⟨_, _, cOne⟩ := cOne
  refine F.ok sc_law_event (fun vs H Q E h => ?_) (fun cdv A outer s H vs Q E hr h => ?_)
  · obtain ⟨a, wl, A, α, ns, n, S, t, ws, rfl, _⟩ := h
    rfl
  · obtain ⟨a, wl, A, α, ns, n, S, t, ws, rfl, hw, hna, W, hn, hwl, hne, hl0, hl1, hws, hub, hen, hth, kN, kE⟩ := h
    have hu := hu_of hr
    refine ⟨_, pss_cons (ps_set (i := 4) sc_law_event.nd rfl (Or.inl rfl) (pe_call cOne.ok (hr.mono (by decide)) (by rfl) cOne.mg cOne.kp cOne.bd .nil pass0 (pa_cons (pv 0) (pa_cons (pv 3) pa_nil))))
    (pss_cons (ps_set (i := 5) sc_law_event.nd rfl (Or.inr rfl) (pe_dget hu (pv 1) pe_str (fun _ _ => rfl)))
    (pss_cons (ps_if (pt_cmpR op_in_seq (pv 4) (pe_tup (pa_cons pe_str (pa_cons pe_str (pa_cons pe_str pa_nil)))) rfl) (pss_cons (ps_set (i := 6) sc_law_event.nd rfl (Or.inl rfl) (pe_call cOne.ok (hr.mono (by decide)) (by rfl) cOne.mg cOne.kp cOne.bd .nil pass0 (pa_cons (pv 0) (pa_cons (pe_dget hu (pv 1) pe_str (fun _ _ => rfl)) pa_nil))))
    (pss_cons (ps_par (i := 7) (j := 8) (by rfl) sc_law_event.nd rfl rfl (by decide) rfl rfl (pa_cons (pe_dget hu (pe_dget hu (pv 1) pe_str (fun _ _ => rfl)) (pv 6) (fun _ _ => rfl)) (pa_cons (pe_call cDraw.ok (hr.mono (by decide)) (by rfl) cDraw.mg cDraw.kp cDraw.bd .nil pass0 (pa_cons (pv 0) (pa_cons pe_int pa_nil))) pa_nil)) (by rfl))
    (pss_one (ps_ret (pe_tup (pa_cons (pv 4) (pa_cons (pv 6) (pa_cons (pe_dget hu (pe_disp (pps_cons pe_str (pv 7) (pps_cons pe_str (pv 8) (pps_cons pe_str (pe_tup (pa_cons (pv 7) (pa_cons (pv 8) pa_nil))) pps_nil))) (by rfl) (by rfl) (fun z => by cases z) (by decide)) (pv 4) (fun _ _ => rfl)) pa_nil)))))))) (pss_nil))
    (pss_cons (ps_if (pt_cmpR op_in_seq (pv 4) (pe_tup (pa_cons pe_str (pa_cons pe_str pa_nil))) rfl) (pss_cons (ps_set (i := 9) sc_law_event.nd rfl (Or.inr rfl) (pe_call cOne.ok (hr.mono (by decide)) (by rfl) cOne.mg cOne.kp cOne.bd .nil pass0 (pa_cons (pv 0) (pa_cons (pe_lst (pa_cons pe_str (pa_cons pe_str (pa_cons pe_str pa_nil)))) pa_nil))))
    (pss_cons (ps_lock (ps_setLc (i := 10) (own := [("_law_pair", 14)]) rfl sc_law_event.nd rfl rfl (sw_true rfl rfl rfl (by decide +kernel)) (pi_keys (pv 5)) (blkOk_by (own := [("_law_pair", 14)]) (N := ["_law_well_here", "_law_world", "_law_thread", "_law_words_here", "_law_word", "_law_has", "_law_cell", "_law_value", "_law_new", "_law_lock", "_law_others", "_law_own", "_law_counter", "_law_ended", "_law_pair", "_law_name"]) (sc := defScope s_law_event) (by decide +kernel)) (fun _ _ _ _ _ => (pg_name (i := 14) sc_law_event.nd rfl (Or.inl rfl))) (fun _ _ _ _ _ => (pts_one (pt_cmpR op_eq (pe_ix (Kx.ixtK (K := K)) (pv 14) pe_int (fun _ _ => rfl)) (pv 9) (nomark _)))) (fun _ _ _ _ _ => (pv 14))))
    (pss_cons (ps_if (pt_cmpR op_eq (pv 4) pe_str (nomark _)) (pss_one (ps_setLc (i := 10) (own := [("_law_pair", 14)]) rfl sc_law_event.nd rfl rfl (sw_true rfl rfl rfl (by decide +kernel)) (pi_list (pv 10)) (blkOk_by (own := [("_law_pair", 14)]) (N := ["_law_well_here", "_law_world", "_law_thread", "_law_words_here", "_law_word", "_law_has", "_law_cell", "_law_value", "_law_new", "_law_lock", "_law_others", "_law_own", "_law_counter", "_law_ended", "_law_pair", "_law_name"]) (sc := defScope s_law_event) (by decide +kernel)) (fun _ _ _ _ _ => (pg_name (i := 14) sc_law_event.nd rfl (Or.inl rfl))) (fun _ _ _ _ _ => (pts_one (PW.pt (pw_or (pt_cmpR op_eq (pe_dget hu (pv 5) (pv 14) (fun _ _ => rfl)) pe_str (nomark _)) (pw_or1 (pt_cmpR op_eq (pe_ix (Kx.ixtK (K := K)) (pv 14) pe_int (fun _ _ => rfl)) (pv 2) (nomark _))))))) (fun _ _ _ _ _ => (pv 14)))) (pss_nil))
    (pss_one (ps_ret (pe_ifExp (pt_cmpR (op_neD hr.units) (pv 10) (pe_lst pa_nil) (nomark _)) pe_non (pe_tup (pa_cons (pv 4) (pa_cons (pv 9) (pa_cons pe_non pa_nil)))))))))) (pss_nil))
    (pss_cons (ps_if (pt_cmpR op_eq (pv 4) pe_str (nomark _)) (pss_cons (ps_set (i := 11) sc_law_event.nd rfl (Or.inl rfl) (pe_callB (SrP.cr_sortTT hr) (by rfl) T.m_sorted (by decide +kernel) (pa_cons (pe_lock (pe_lc (own := [("_law_pair", 14)]) rfl sc_law_event.nd (pi_keys (pv 5)) (blkOk_by (own := [("_law_pair", 14)]) (N := ["_law_well_here", "_law_world", "_law_thread", "_law_words_here", "_law_word", "_law_has", "_law_cell", "_law_value", "_law_new", "_law_lock", "_law_others", "_law_own", "_law_counter", "_law_ended", "_law_pair", "_law_name"]) (sc := defScope s_law_event) (by decide +kernel)) (fun _ _ _ _ _ => (pg_name (i := 14) sc_law_event.nd rfl (Or.inl rfl))) (fun _ _ _ _ _ => (pts_one (pt_cmpR op_eq (pe_ix (Kx.ixtK (K := K)) (pv 14) pe_int (fun _ _ => rfl)) (pv 2) (nomark _)))) (fun _ _ _ _ _ => (pv 14)))) pa_nil)))
    (pss_cons (ps_if (pt_cmpR (op_eqD hr.units) (pv 11) (pe_lst pa_nil) (nomark _)) (pss_one (ps_ret pe_non)) (pss_nil))
    (pss_cons (ps_set (i := 9) sc_law_event.nd rfl (Or.inr rfl) (pe_ix ix_tup (pe_call cOne.ok (hr.mono (by decide)) (by rfl) cOne.mg cOne.kp cOne.bd .nil pass0 (pa_cons (pv 0) (pa_cons (pv 11) pa_nil))) pe_int (fun _ _ => rfl)))
    (pss_one (ps_ret (pe_tup (pa_cons (pe_ifExp (pt_cmpR op_eq (pe_dget hu (pv 5) (pe_tup (pa_cons (pv 9) (pa_cons (pv 2) pa_nil))) (fun _ _ => rfl)) pe_str (nomark _)) pe_str pe_str) (pa_cons (pv 9) (pa_cons pe_non pa_nil))))))))) (pss_nil))
    (pss_cons (ps_if (pt_cmpR op_in_seq (pv 4) (pe_tup (pa_cons pe_str (pa_cons pe_str pa_nil))) rfl) (pss_cons (ps_set (i := 12) sc_law_event.nd rfl (Or.inl rfl) (pe_call cOne.ok (hr.mono (by decide)) (by rfl) cOne.mg cOne.kp cOne.bd .nil pass0 (pa_cons (pv 0) (pa_cons (pe_lst (pa_cons pe_str (pa_cons pe_str pa_nil))) pa_nil))))
    (pss_one (ps_ret (pe_ifExp (PW.pt (pw_and (pt_cmpR op_eq (pv 4) pe_str (nomark _)) (pw_and1 (pt_cmpR op_eq (pe_dget hu (pe_dget hu (pv 1) pe_str (fun _ _ => rfl)) (pv 12) (fun _ _ => rfl)) pe_int (nomark _))))) pe_non (pe_tup (pa_cons (pv 4) (pa_cons (pv 12) (pa_cons pe_non pa_nil)))))))) (pss_nil))
    (pss_cons (ps_if (pt_cmpR op_eq (pv 4) pe_str (nomark _)) (pss_one (ps_ret (pe_ifExp (pt_cmpR (op_neD hr.units) (pe_dget hu (pv 1) pe_str (fun _ _ => rfl)) (pe_lst pa_nil) (nomark _)) (pe_tup (pa_cons pe_str (pa_cons (pe_call cOne.ok (hr.mono (by decide)) (by rfl) cOne.mg cOne.kp cOne.bd .nil pass0 (pa_cons (pv 0) (pa_cons (pe_dget hu (pv 1) pe_str (fun _ _ => rfl)) pa_nil))) (pa_cons pe_non pa_nil)))) pe_non))) (pss_nil))
    (pss_cons (ps_if (pt_cmpR op_eq (pv 4) pe_str (nomark _)) (pss_cons (ps_setLc (i := 13) (own := [("_law_name", 15)]) rfl sc_law_event.nd rfl rfl (sw_true rfl rfl rfl (by decide +kernel)) (pi_list (pe_dget hu (pv 1) pe_str (fun _ _ => rfl))) (blkOk_by (own := [("_law_name", 15)]) (N := ["_law_well_here", "_law_world", "_law_thread", "_law_words_here", "_law_word", "_law_has", "_law_cell", "_law_value", "_law_new", "_law_lock", "_law_others", "_law_own", "_law_counter", "_law_ended", "_law_pair", "_law_name"]) (sc := defScope s_law_event) (by decide +kernel)) (fun _ _ _ _ _ => (pg_name (i := 15) sc_law_event.nd rfl (Or.inl rfl))) (fun _ _ _ _ _ => (pts_one (pt_cmpR op_ne (pv 15) (pv 2) (nomark _)))) (fun _ _ _ _ _ => (pv 15)))
    (pss_one (ps_ret (pe_ifExp (pt_cmpR (op_neD hr.units) (pv 13) (pe_lst pa_nil) (nomark _)) (pe_tup (pa_cons pe_str (pa_cons (pe_call cOne.ok (hr.mono (by decide)) (by rfl) cOne.mg cOne.kp cOne.bd .nil pass0 (pa_cons (pv 0) (pa_cons (pv 13) pa_nil))) (pa_cons pe_non pa_nil)))) pe_non)))) (pss_nil))
    (pss_one (ps_ret (pe_tup (pa_cons (pv 4) (pa_cons pe_non (pa_cons pe_non pa_nil))))))))))))), ?_⟩
    refine st_asg ?_
    refine ⟨_, rfl, _, rfl, a, wl, _, rfl, hw, hwl, hne, by rw [List.length_map]; exact hl0, by rw [List.length_map]; omega, fun x i m k hx => ?_⟩
    rw [List.getElem?_map] at hx
    obtain ⟨wd, hwd, rfl⟩ := Option.map_eq_some_iff.mp hx
    have hwm := hws wd (List.mem_of_getElem? hwd)
    obtain ⟨st1, hw1⟩ := step_well hw m k
    have W1 := W.step st1 (by simpa using hna)
    generalize upd H a (.lst [.int m, .int k]) = H1 at st1 hw1 W1 ⊢
    refine st_asg ?_
    refine ⟨_, rfl, A.wa, _, rfl, W1.get (kv_locks A), ?_⟩
    refine st_if ?_
    refine ⟨_, rfl, in_tup ["read", "write", "swap"] (by decide) fun H2 s2 => ?_⟩
    have e2 := fun H' (q : Step [a] H1 H') => W1.step q (by simpa using hna)
    by_cases hc : wd ∈ (["read", "write", "swap"] : List Str)
    · refine ifT hc ?_
      have W2 := W1.same s2
      have hw2 : WellAt H2 a := hw1.same s2
      have st2 : Step [a] H H2 := st1.trans (.of s2)
      obtain ⟨hc0, hc3, hcn⟩ := W2.cs
      have hcl : 0 < S.cells.length := List.length_pos_iff.mpr hc0
      refine st_asg ?_
      refine ⟨_, rfl, _, rfl, A.wa, _, rfl, W2.get (kv_cells A), a, A.ce, _, rfl, hw2, SqL.of W2.ce, fun z => hna (by rw [← z]; simp [WA.own]), by rw [List.length_map]; exact hcl, by rw [List.length_map]; omega, fun x i m k hx => ?_⟩
      rw [List.getElem?_map] at hx
      obtain ⟨c, hcc, rfl⟩ := Option.map_eq_some_iff.mp hx
      have hcm := List.mem_of_getElem? hcc
      obtain ⟨st3, hw3⟩ := step_well hw2 m k
      have W3 := W2.step st3 (by simpa using hna)
      generalize upd H2 a (.lst [.int m, .int k]) = H3 at st3 hw3 W3 ⊢
      obtain ⟨mk, mk1, mk2, mk3⟩ := W3.me
      obtain ⟨i0, hi0⟩ := mk2 c hcm
      refine st_par ?_
      refine ⟨_, rfl, A.wa, _, rfl, W3.get (kv_memory A), _, rfl, A.me, _, rfl, by rw [← hi0]; exact DGet.k (k := Sum.inr c) mk1, _, rfl, a, 3, rfl, hw3, by decide, by decide, fun d m' k' d0 d1 => ⟨_, _, rfl, ?_⟩⟩
      obtain ⟨st4, hw4⟩ := step_well hw3 m' k'
      generalize upd H3 a (.lst [.int m', .int k']) = H4 at st4 hw4 ⊢
      refine st_ret ?_
      refine ⟨_, rfl, _, rfl, fun p hp => ⟨_, rfl, _, rfl, _, rfl, _, rfl, by show 2 ≤ sizeLine; decide, fun q hq => ?_⟩⟩
      have n1 : p ≠ q := fun z => by rw [← z, upd_same] at hq; cases hq
      have hq4 : H4 q = none := by rw [upd_ne n1.symm] at hq; exact hq
      have p5 : (upd (upd H4 p (.dK [])) q (.tup [.int i0, .int d])) p = some (.dK []) := by rw [upd_ne n1, upd_same]
      have q5 : (upd (upd H4 p (.dK [])) q (.tup [.int i0, .int d])) q = some (.tup [.int i0, .int d]) := upd_same
      have s5 : ∀ b u, H4 b = some u → (upd (upd H4 p (.dK [])) q (.tup [.int i0, .int d])) b = some u := fun b u e => by rw [upd_ne (ne_of_none e hq4), upd_ne (ne_of_none e hp)]; exact e
      generalize upd (upd H4 p (.dK [])) q (.tup [.int i0, .int d]) = H5 at p5 q5 s5 ⊢
      have s6 : ∀ b u, H4 b = some u → (upd H5 p (.dK (mergeK [] [(Sum.inr "read", .int i0), (Sum.inr "write", .int d), (Sum.inr "swap", .ref q)]))) b = some u := fun b u e => by rw [upd_ne (ne_of_none e hp)]; exact s5 b u e
      have p6 : (upd H5 p (.dK (mergeK [] [(Sum.inr "read", .int i0), (Sum.inr "write", .int d), (Sum.inr "swap", .ref q)]))) p = some (.dK (mergeK [] [(Sum.inr "read", .int i0), (Sum.inr "write", .int d), (Sum.inr "swap", .ref q)])) := upd_same
      have q6 : (upd H5 p (.dK (mergeK [] [(Sum.inr "read", .int i0), (Sum.inr "write", .int d), (Sum.inr "swap", .ref q)]))) q = some (.tup [.int i0, .int d]) := by rw [upd_ne n1.symm]; exact q5
      refine ⟨p5, [(Sum.inr "read", .int i0), (Sum.inr "write", .int d), (Sum.inr "swap", .ref q)], rfl, (by show 3 ≤ 15; decide), ?_⟩
      dsimp only
      generalize upd H5 p (.dK (mergeK [] [(Sum.inr "read", .int i0), (Sum.inr "write", .int d), (Sum.inr "swap", .ref q)])) = H6 at s6 p6 q6 ⊢
      obtain ⟨v, z, hv, hz, hsw⟩ : ∃ v z, valV (mergeK [] [((Sum.inr "read" : Key), V.int i0), (Sum.inr "write", .int d), (Sum.inr "swap", .ref q)]) (Sum.inr wd) = some v ∧ VlAt K H6 v z ∧ (if wd = "swap" then ∃ i j, z = .two i j else ∃ i, z = .one i) := by
        simp only [List.mem_cons, List.mem_nil_iff, or_false] at hc
        rcases hc with rfl | rfl | rfl
        · exact ⟨.int i0, .one i0, rfl, rfl, by rw [if_neg (by decide +kernel)]; exact ⟨_, rfl⟩⟩
        · exact ⟨.int d, .one d, rfl, rfl, by rw [if_neg (by decide +kernel)]; exact ⟨_, rfl⟩⟩
        · exact ⟨.ref q, .two i0 d, rfl, ⟨q, rfl, SqT.of q6⟩, by rw [if_pos rfl]; exact ⟨_, _, rfl⟩⟩
      refine ⟨_, rfl, p, _, rfl, by rw [← hv]; exact DGet.k (k := Sum.inr wd) p6, by show 3 ≤ sizeLine; decide, fun r hr' => ?_⟩
      have s7 : Same H6 (upd H6 r (.tup [.str wd, .str c, v])) := same_new hr'
      have st6 : Step [a] H H6 := (st2.trans (st3.trans st4)).trans (.of s6)
      exact kE _ (.ref r) ⟨wd, some c, z⟩ (st6.trans (.of s7)) ((hw4.same s6).same s7) ⟨r, v, rfl, SqT.of upd_same, hz.same s7⟩ (fit_cell hc hcm hcn hsw)
    · refine ifF hc ?_
      refine st_nx ?_
      dsimp only
      have W2 := W1.same s2
      have hw2 : WellAt H2 a := hw1.same s2
      have st2 : Step [a] H H2 := st1.trans (.of s2)
      clear W1 hw1 st1 s2 e2 W hw
      refine st_if ?_
      refine ⟨_, rfl, in_tup ["lock", "share"] (by decide) fun H3 s3 => ?_⟩
      have W3 := W2.same s3
      have hw3 : WellAt H3 a := hw2.same s3
      have st3 : Step [a] H H3 := st2.trans (.of s3)
      clear W2 hw2 st2 s3
      by_cases hlk : wd ∈ (["lock", "share"] : List Str)
      · refine ifT hlk ?_
        refine st_asg ?_
        refine ⟨_, rfl, by show 3 ≤ sizeLine; decide, fun p hp => ?_⟩
        have s4 : Same H3 (upd H3 p (.lst [.str "l", .str "m", .str "n"])) := same_new hp
        have p4 : (upd H3 p (.lst [.str "l", .str "m", .str "n"])) p = some (.lst (lockNames.map V.str)) := upd_same
        generalize upd H3 p (.lst [.str "l", .str "m", .str "n"]) = H4 at s4 p4 ⊢
        have W4 := W3.same s4
        have hw4 : WellAt H4 a := hw3.same s4
        have npa : p ≠ a := fun z => by
          obtain ⟨x, y, q⟩ := hw3
          rw [z, q] at hp
          cases hp
        refine ⟨a, p, _, rfl, hw4, SqL.of p4, npa, by decide, by decide, fun x i m k hx => ?_⟩
        rw [List.getElem?_map] at hx
        obtain ⟨l, hll, rfl⟩ := Option.map_eq_some_iff.mp hx
        have hlm := List.mem_of_getElem? hll
        obtain ⟨st5, hw5⟩ := step_well hw4 m k
        have W5 := W4.step st5 (by simpa using hna)
        generalize upd H4 a (.lst [.int m, .int k]) = H5 at st5 hw5 W5 ⊢
        have st5' : Step [a] H H5 := (st3.trans (.of s4)).trans st5
        clear st5 W4 hw4 s4 p4 W3 hw3 st3 hp
        obtain ⟨kvs, lo1, lk⟩ := W5.loc
        have gk : ∀ (bs : List SrP.B), (∀ b ∈ bs, ∃ v, (Lkk b.2.1 b.2.2, v) ∈ kvs) → ∀ d ∈ bs.map SrP.enc, GoodD d := fun bs hb => enc_good fun b hbm => by
          obtain ⟨v, hv⟩ := hb b hbm
          obtain ⟨l', t', e, h1, h2⟩ := lk.key _ hv
          injection e with e1 e2
          injection e2 with e2 _
          rw [Sum.inr.inj e1, Sum.inr.inj e2]
          exact ⟨name_str (κ0_lock h1).2, name_str (κ0_thr h2).2⟩
        refine ⟨A.lo, _, lo1, trivial, fun od => ?_⟩
        refine st_asgl (rd_pairs (j := 0) (s := 9) (x := l) (.inl rfl) (fun v => rfl) upd_same (fun kv h => let ⟨l, t, e, _⟩ := lk.key kv h; ⟨l, t, e⟩) (Nat.le_trans lk.len hn) fun H6 D bs s6 hD hb hp hbl hm => ?_)
        have f6 := s6 _ _ (upd_same : (upd H5 A.lo (.frz od (.dT kvs))) A.lo = some (.frz od (.dT kvs)))
        refine ⟨f6, ?_⟩
        have nD : D ≠ A.lo := fun z => by rw [z, upd_same] at hD; cases hD
        have st7 : Step [] H5 (upd H6 A.lo (.dT kvs)) := .unlock lo1 rfl rfl (.of s6)
        have hb7 : (upd H6 A.lo (.dT kvs)) D = some (.lst (refs bs)) := by rw [upd_ne nD]; exact hb
        have hp7 : PairsAt (upd H6 A.lo (.dT kvs)) bs := hp.step (nt := true) (l := [A.lo]) (.put f6 rfl)
        have lo7 : (upd H6 A.lo (.dT kvs)) A.lo = some (.dT kvs) := upd_same
        have W7 := W5.step st7 (by simp)
        have hw7 : WellAt (upd H6 A.lo (.dT kvs)) a := by
          obtain ⟨x, y, z⟩ := hw5
          exact ⟨x, y, st7.oth _ _ (by simp) rfl z⟩
        have st7' : Step [a] H (upd H6 A.lo (.dT kvs)) := st5'.then st7 (by simp)
        generalize upd H6 A.lo (.dT kvs) = H7 at st7 hb7 hp7 lo7 W7 hw7 st7' ⊢
        clear f6 hp hb s6 st7 nD hD W5 hw5 st5' lo1
        have hin : ∀ b ∈ bs, ∃ v, (Lkk b.2.1 b.2.2, v) ∈ kvs := fun b hb => ((hm b.2.1 b.2.2).mp ⟨b.1, hb⟩).1
        dsimp only
        refine st_ifJ (fun σ' H8 => ∃ D' cs w14, σ' = [some (.ref a), some (.ref A.wa), some (.str t), some (.ref wl), some (.str wd), some (.ref A.lo), none, none, none, some (.str l), some (.ref D'), none, none, none, w14, none] ∧ Same H7 H8 ∧ H8 D' = some (.lst (refs cs)) ∧ PairsAt H8 cs ∧ (∀ c ∈ cs, c ∈ bs) ∧ ∀ b ∈ bs, b.2.2 = t → b ∈ cs) (fun R hR => ?_) ?_
        · refine ⟨_, rfl, rfl, _, rfl, ?_⟩
          refine ite2 (fun _ => ?_) (fun _ => ?_)
          · refine st_asgl (rd_pairs2 (n := n) lo7 lk hb7 hp7 hbl hin fun H8 D' cs s8 hD' hc hpc hcl hc1 hc2 => ?_)
            exact hR _ _ ⟨D', cs, _, rfl, s8, hc, hpc, hc1, hc2⟩
          · exact hR _ _ ⟨D, bs, _, rfl, Same.refl _, hb7, hp7, fun c h => h, fun b h _ => h⟩
        · rintro σ' H8 ⟨D', cs, w14, rfl, s8, hc8, hp8, hc1, hc2⟩
          refine st_ret ?_
          refine ⟨_, rfl, by show 0 ≤ sizeLine; decide, fun q hq => ?_⟩
          have s9 : Same H8 (upd H8 q (.lst [])) := same_new hq
          have q9 : (upd H8 q (.lst [])) q = some (.lst []) := upd_same
          generalize upd H8 q (.lst []) = H9 at s9 q9 ⊢
          have s79 := s8.trans s9
          refine ⟨.list (cs.map SrP.enc), .list [], .lst (SqL.of (s9 _ _ hc8)) (PairsAt.dp (hp8.step (nt := true) (l := []) (.of s9))), .lst (SqL.of q9) .nil, shaped_list (gk cs fun b hb => hin b (hc1 b hb)), by decide +kernel, _, rfl, ?_⟩
          rw [eqv_nil]
          cases cs with
          | cons c0 cs0 => exact iteT (kN _ (st7'.trans (.of s79)) (hw7.same s79))
          | nil =>
            refine iteF ?_
            refine ⟨_, rfl, _, rfl, by show 3 ≤ sizeLine; decide, fun r hr' => ?_⟩
            have sA : Same H9 (upd H9 r (.tup [.str wd, .str l, .non])) := same_new hr'
            refine kE _ (.ref r) ⟨wd, some l, .non⟩ ((st7'.trans (.of s79)).trans (.of sA)) ((hw7.same s79).same sA) ⟨r, .non, rfl, SqT.of upd_same, rfl⟩ (fit_lock hlk hlm ?_)
            cases e : S.lk l t with
            | none => rfl
            | some x =>
              have e2 := lk.val l t
              rw [e] at e2
              obtain ⟨b, hb⟩ := (hm l t).mpr ⟨⟨_, valV_mem e2⟩, rfl⟩
              exact absurd (hc2 _ hb rfl) (by simp)
      · refine ifF hlk ?_
        refine st_nx ?_
        dsimp only
        refine st_if ?_
        refine ⟨_, rfl, rfl, _, rfl, ?_⟩
        by_cases hun : wd = "unlock"
        · refine ifT (by rw [hun]) ?_
          refine st_asg ?_
          obtain ⟨kvs, lo1, lk⟩ := W3.loc
          refine ⟨A.lo, _, lo1, trivial, fun od => ?_⟩
          refine rd_pairs (j := 1) (s := 2) (x := t) (.inr rfl) (fun v => rfl) upd_same (fun kv h => let ⟨l, t, e, _⟩ := lk.key kv h; ⟨l, t, e⟩) (Nat.le_trans lk.len hn) fun H6 D bs s6 hD hb hp hbl hm => ?_
          have f6 := s6 _ _ (upd_same : (upd H3 A.lo (.frz od (.dT kvs))) A.lo = some (.frz od (.dT kvs)))
          refine ⟨f6, ?_⟩
          have nD : D ≠ A.lo := fun z => by rw [z, upd_same] at hD; cases hD
          have st7 : Step [] H3 (upd H6 A.lo (.dT kvs)) := .unlock lo1 rfl rfl (.of s6)
          have hb7 : (upd H6 A.lo (.dT kvs)) D = some (.lst (refs bs)) := by rw [upd_ne nD]; exact hb
          have hp7 : PairsAt (upd H6 A.lo (.dT kvs)) bs := hp.step (nt := true) (l := [A.lo]) (.put f6 rfl)
          have lo7 : (upd H6 A.lo (.dT kvs)) A.lo = some (.dT kvs) := upd_same
          have W7 := W3.step st7 (by simp)
          have hw7 : WellAt (upd H6 A.lo (.dT kvs)) a := by
            obtain ⟨x, y, z⟩ := hw3
            exact ⟨x, y, st7.oth _ _ (by simp) rfl z⟩
          have st7' : Step [a] H (upd H6 A.lo (.dT kvs)) := st3.then st7 (by simp)
          generalize upd H6 A.lo (.dT kvs) = H7 at st7 hb7 hp7 lo7 W7 hw7 st7' ⊢
          clear f6 hp hb s6 st7 nD hD W3 hw3 st3 lo1
          refine ⟨D, bs, rfl, SqL.of hb7, fun b hb => SqT.of (hp7 b hb), by omega, fun cs p pm hp => ?_⟩
          have s8 : Same H7 (upd H7 p (.lst (refs cs))) := same_new hp
          have c8 : (upd H7 p (.lst (refs cs))) p = some (.lst (refs cs)) := upd_same
          have hp8 : PairsAt (upd H7 p (.lst (refs cs))) cs := fun b hb => s8 _ _ (hp7 b (pm.mem_iff.mp hb))
          have npa : p ≠ a := fun z => by
            obtain ⟨x, y, q⟩ := hw7
            rw [z, q] at hp
            cases hp
          generalize upd H7 p (.lst (refs cs)) = H8 at s8 c8 hp8 ⊢
          refine st_if ?_
          refine ⟨_, rfl, by show 0 ≤ sizeLine; decide, fun q hq => ?_⟩
          have s9 : Same H8 (upd H8 q (.lst [])) := same_new hq
          have q9 : (upd H8 q (.lst [])) q = some (.lst []) := upd_same
          generalize upd H8 q (.lst []) = H9 at s9 q9 ⊢
          have s79 := s8.trans s9
          have W9 := W7.same s79
          have hw9 := hw7.same s79
          have c9 := s9 _ _ c8
          have hp9 := hp8.step (nt := true) (l := []) (.of s9)
          have hin : ∀ b ∈ cs, (∃ v, (Lkk b.2.1 b.2.2, v) ∈ kvs) ∧ b.2.2 = t := fun b hb => (hm b.2.1 b.2.2).mp ⟨b.1, pm.mem_iff.mp hb⟩
          have gk : ∀ d ∈ cs.map SrP.enc, GoodD d := enc_good fun b hbm => by
            obtain ⟨⟨v, hv⟩, _⟩ := hin b hbm
            obtain ⟨l', t', e, h1, h2⟩ := lk.key _ hv
            injection e with e1 e2
            injection e2 with e2 _
            rw [Sum.inr.inj e1, Sum.inr.inj e2]
            exact ⟨name_str (κ0_lock h1).2, name_str (κ0_thr h2).2⟩
          refine ⟨.list (cs.map SrP.enc), .list [], .lst (SqL.of c9) (PairsAt.dp hp9), .lst (SqL.of q9) .nil, shaped_list gk, by decide +kernel, _, rfl, ?_⟩
          rw [eqv_nil]
          cases hcs : cs with
          | nil => exact iteT (kN _ (st7'.trans (.of s79)) hw9)
          | cons c0 cs0 =>
            refine iteF ?_
            refine st_nx ?_
            dsimp only
            refine st_asg ?_
            have hpos : 0 < cs.length := by rw [hcs]; exact Nat.succ_pos _
            have hcl : cs.length ≤ 500 := by rw [pm.length_eq]; exact hbl
            clear hcs gk
            refine ⟨_, rfl, _, rfl, a, p, _, rfl, hw9, SqL.of c9, npa, by rw [List.length_map]; exact hpos, by rw [List.length_map]; omega, fun x i m k hx => ?_⟩
            rw [List.getElem?_map] at hx
            obtain ⟨b, hbi, rfl⟩ := Option.map_eq_some_iff.mp hx
            have hbm := List.mem_of_getElem? hbi
            obtain ⟨⟨v, hv⟩, ht⟩ := hin b hbm
            obtain ⟨q0, l, t'⟩ := b
            have ht : t' = t := ht
            subst ht
            obtain ⟨stA, hwA⟩ := step_well hw9 m k
            have WA' := W9.step stA (by simpa using hna)
            have hqA := stA.tup _ _ rfl (hp9 _ hbm)
            have loA : (upd H9 a (.lst [.int m, .int k])) A.lo = some (.dT kvs) := stA.oth _ _ (by simp; exact fun z => hna (by rw [← z]; simp [WA.own])) rfl (s79 _ _ lo7)
            generalize upd H9 a (.lst [.int m, .int k]) = HA at stA hwA WA' hqA loA ⊢
            have stA' : Step [a] H HA := (st7'.trans (.of s79)).trans stA
            refine ⟨q0, _, _, _, rfl, rfl, SqT.of hqA, atI_nat (j := 0) rfl, ?_⟩
            refine st_ret ?_
            obtain ⟨l', t2, e, hlm, _⟩ := lk.key _ hv
            injection e with e1 e2
            rw [← Sum.inr.inj e1] at hlm
            have hlk2 : ∃ wd, S.lk l t' = some wd := by
              have e := lk.val l t'
              cases q1 : S.lk l t' with
              | some z => exact ⟨z, rfl⟩
              | none =>
                rw [q1] at e
                exact absurd (List.mem_map.mpr ⟨_, hv, rfl⟩) (valV_not (k := Lkk l t') e)
            obtain ⟨wl', hwl'⟩ := hlk2
            refine ⟨_, rfl, _, rfl, _, rfl, by show 2 ≤ sizeLine; decide, fun r hr' => ?_⟩
            have sB : Same HA (upd HA r (.tup [.str l, .str t'])) := same_new hr'
            have rB : (upd HA r (.tup [.str l, .str t'])) r = some (.tup [.str l, .str t']) := upd_same
            generalize upd HA r (.tup [.str l, .str t']) = HB at sB rB ⊢
            refine ⟨A.lo, _, rfl, by rw [← (show (some wl').map V.str = some (V.str wl') from rfl), ← hwl', ← lk.val l t']; exact DGet.t (k := Lkk l t') (sB _ _ loA) rB, rfl, _, rfl, ?_⟩
            have fin : ∀ (z : Str), z = (if wl' = "lock" then ("unlock" : Str) else "unshare") → tCons (tVar 9) (tCons (tC V.non) tNil) [some (.ref a), some (.ref A.wa), some (.str t'), some (.ref wl), some (.str wd), some (.ref A.lo), none, none, none, some (.str l), none, some (.ref p), none, none, none, none] HB (fun vs H' => (V.str z :: vs).length ≤ sizeLine ∧ ∀ q, H' q = none → Q (.ref q) (upd H' q (.tup (V.str z :: vs)))) := fun z hz => by
              refine ⟨_, rfl, by show 3 ≤ sizeLine; decide, fun q hq => ?_⟩
              have sC : Same HB (upd HB q (.tup [.str z, .str l, .non])) := same_new hq
              refine kE _ (.ref q) ⟨z, some l, .non⟩ ((stA'.trans (.of sB)).trans (.of sC)) ((hwA.same sB).same sC) ⟨q, .non, rfl, SqT.of upd_same, rfl⟩ ?_
              rw [hz]
              exact fit_unlock hlm (lk.word _ _ _ hwl') hwl'
            by_cases hwk : wl' = "lock"
            · exact ifT (by rw [hwk]) (fin _ (by rw [if_pos hwk]))
            · exact ifF (fun z => hwk (V.str.inj z)) (fin _ (by rw [if_neg hwk]))
        · refine ifF (fun z => hun (V.str.inj z)) ?_
          refine st_nx ?_
          dsimp only
          refine st_if ?_
          refine ⟨_, rfl, in_tup ["up", "down"] (by decide) fun H4 s4 => ?_⟩
          have W4 := W3.same s4
          have hw4 : WellAt H4 a := hw3.same s4
          have st4 : Step [a] H H4 := st3.trans (.of s4)
          clear W3 hw3 st3 s4
          by_cases hud : wd ∈ (["up", "down"] : List Str)
          · refine ifT hud ?_
            refine st_asg ?_
            refine ⟨_, rfl, by show 2 ≤ sizeLine; decide, fun p hp => ?_⟩
            have s5 : Same H4 (upd H4 p (.lst [.str "s", .str "t"])) := same_new hp
            have p5 : (upd H4 p (.lst [.str "s", .str "t"])) p = some (.lst (cntNames.map V.str)) := upd_same
            generalize upd H4 p (.lst [.str "s", .str "t"]) = H5 at s5 p5 ⊢
            have W5 := W4.same s5
            have hw5 : WellAt H5 a := hw4.same s5
            have npa : p ≠ a := fun z => by
              obtain ⟨x, y, q⟩ := hw4
              rw [z, q] at hp
              cases hp
            refine ⟨a, p, _, rfl, hw5, SqL.of p5, npa, by decide, by decide, fun x i m k hx => ?_⟩
            rw [List.getElem?_map] at hx
            obtain ⟨c, hcc, rfl⟩ := Option.map_eq_some_iff.mp hx
            have hcm := List.mem_of_getElem? hcc
            obtain ⟨st6, hw6⟩ := step_well hw5 m k
            have W6 := W5.step st6 (by simpa using hna)
            generalize upd H5 a (.lst [.int m, .int k]) = H6 at st6 hw6 W6 ⊢
            have st6' : Step [a] H H6 := (st4.trans (.of s5)).trans st6
            refine st_ret ?_
            have fin : tTup (tCons (tVar 4) (tCons (tVar 12) (tCons (tC V.non) tNil))) [some (.ref a), some (.ref A.wa), some (.str t), some (.ref wl), some (.str wd), some (.ref A.lo), none, none, none, none, none, none, some (.str c), none, none, none] H6 Q := by
              refine ⟨_, rfl, _, rfl, by show 3 ≤ sizeLine; decide, fun r hr' => ?_⟩
              have sC : Same H6 (upd H6 r (.tup [.str wd, .str c, .non])) := same_new hr'
              exact kE _ (.ref r) ⟨wd, some c, .non⟩ (st6'.trans (.of sC)) (hw6.same sC) ⟨r, .non, rfl, SqT.of upd_same, rfl⟩ (fit_cnt hud hcm)
            refine ⟨_, rfl, rfl, _, rfl, ?_⟩
            refine ite2 (fun _ => ?_) (fun _ => iteF fin)
            obtain ⟨i1, i2, hco⟩ := W6.co
            obtain ⟨i3, hi3⟩ : ∃ i3, valV [((Sum.inr "s" : Key), V.int i1), (Sum.inr "t", V.int i2)] (Sum.inr c) = some (.int i3) := by
              simp only [cntNames, List.mem_cons, List.mem_nil_iff, or_false] at hcm
              rcases hcm with rfl | rfl
              · exact ⟨i1, rfl⟩
              · exact ⟨i2, rfl⟩
            refine ⟨_, rfl, A.wa, _, rfl, W6.get (kv_counters A), _, rfl, A.co, _, rfl, by rw [← hi3]; exact DGet.k (k := Sum.inr c) hco, rfl, _, rfl, ?_⟩
            exact ite2 (fun _ => kN _ st6' hw6) (fun _ => fin)
          · refine ifF hud ?_
            refine st_nx ?_
            dsimp only
            refine st_if ?_
            refine ⟨_, rfl, rfl, _, rfl, ?_⟩
            by_cases hfk : wd = "fork"
            · refine ifT (by rw [hfk]) ?_
              refine st_ret ?_
              refine ⟨_, rfl, A.wa, _, rfl, W4.get (kv_unborn A), by show 0 ≤ sizeLine; decide, fun q hq => ?_⟩
              have s9 : Same H4 (upd H4 q (.lst [])) := same_new hq
              have q9 : (upd H4 q (.lst [])) q = some (.lst []) := upd_same
              generalize upd H4 q (.lst []) = H9 at s9 q9 ⊢
              have W9 := W4.same s9
              have hw9 := hw4.same s9
              refine ⟨.list (S.unborn.map PyData.str), .list [], .lst (SqL.of W9.un) (strs_dp _), .lst (SqL.of q9) .nil, shaped_list (strs_good fun x hx => name_str (κ0_thr (hth x (List.mem_append_left _ hx))).2), by decide +kernel, _, rfl, ?_⟩
              rw [eqv_nil]
              by_cases hub0 : S.unborn = []
              · rw [hub0]
                exact iteF (kN _ (st4.trans (.of s9)) hw9)
              · have e0 : (!(S.unborn.map PyData.str).isEmpty) = true := by
                  cases q1 : S.unborn with
                  | nil => exact absurd q1 hub0
                  | cons _ _ => rfl
                rw [e0]
                refine iteT ?_
                refine ⟨_, rfl, _, rfl, A.wa, _, rfl, W9.get (kv_unborn A), a, A.un, _, rfl, hw9, SqL.of W9.un, fun z => hna (by rw [← z]; simp [WA.own]), by rw [List.length_map]; exact List.length_pos_iff.mpr hub0, by rw [List.length_map]; omega, fun x i m k hx => ?_⟩
                rw [List.getElem?_map] at hx
                obtain ⟨c, hcc, rfl⟩ := Option.map_eq_some_iff.mp hx
                have hcm := List.mem_of_getElem? hcc
                obtain ⟨stA, hwA⟩ := step_well hw9 m k
                generalize upd H9 a (.lst [.int m, .int k]) = HA at stA hwA ⊢
                refine ⟨by show 3 ≤ sizeLine; decide, fun r hr' => ?_⟩
                have sC : Same HA (upd HA r (.tup [.str "fork", .str c, .non])) := same_new hr'
                exact kE _ (.ref r) ⟨"fork", some c, .non⟩ (((st4.trans (.of s9)).trans stA).trans (.of sC)) (hwA.same sC) ⟨r, .non, rfl, SqT.of upd_same, rfl⟩ (fit_thr (.inl ⟨rfl, hcm⟩) (hth c (List.mem_append_left _ hcm)))
            · refine ifF (fun z => hfk (V.str.inj z)) ?_
              refine st_nx ?_
              dsimp only
              refine st_if ?_
              refine ⟨_, rfl, rfl, _, rfl, ?_⟩
              by_cases hjn : wd = "join"
              · refine ifT (by rw [hjn]) ?_
                refine st_asg ?_
                refine ⟨_, rfl, A.wa, _, rfl, W4.get (kv_ended A), A.en, rfl, ⟨_, SqL.of W4.en⟩, fun D hD => ?_⟩
                refine lc_it (walk_list (K := K) (a := A.en) (xs := S.ended.map V.str)) (AccP H4 D fun i acc H' => ∃ cs : List Str, acc = cs.map V.str ∧ cs.length ≤ i ∧ ∀ c ∈ cs, c ∈ S.ended ∧ c ≠ t)
                  (acc0 hD ⟨[], rfl, Nat.le_refl _, fun b hb => by simp at hb⟩) (fun i H' _ q => SqL.of (q.1 _ _ W4.en)) ?_ ?_
                · rintro i y H1 H2 hi ⟨s1, acc, hD1, cs, rfl, hcl, hc1⟩ ⟨rfl, hx⟩
                  have hi' : i < S.ended.length := by rwa [List.length_map] at hi
                  rw [List.getElem?_map] at hx
                  obtain ⟨x, hxi, rfl⟩ := Option.map_eq_some_iff.mp hx
                  have hxm := List.mem_of_getElem? hxi
                  refine ⟨rfl, ?_⟩
                  refine ⟨_, rfl, _, rfl, rfl, _, rfl, ?_⟩
                  by_cases hxt : x = t
                  · rw [decide_eq_true (show V.str x = V.str t by rw [hxt])]
                    exact iteF ⟨s1, _, hD1, cs, rfl, by omega, hc1⟩
                  · rw [decide_eq_false (show ¬ V.str x = V.str t from fun z => hxt (V.str.inj z))]
                    refine iteT ?_
                    refine ⟨_, rfl, acc_put hD s1 hD1 (by rw [List.length_map]; exact Nat.lt_of_le_of_lt (show cs.length ≤ 1000 by omega) (by decide)) ⟨cs ++ [x], by simp, by simp; omega, fun c hc => ?_⟩⟩
                    rcases List.mem_append.mp hc with h1 | h1
                    · exact hc1 c h1
                    · rw [List.mem_singleton.mp h1]
                      exact ⟨hxm, hxt⟩
                · rintro H5 ⟨s5, acc, hD5, cs, rfl, hcl, hc1⟩
                  rw [List.length_map] at hcl
                  have W5 := W4.same s5
                  have hw5 := hw4.same s5
                  have nDa : D ≠ a := fun z => by
                    obtain ⟨x, y, q⟩ := hw4
                    rw [z, q] at hD
                    cases hD
                  refine st_ret ?_
                  refine ⟨_, rfl, by show 0 ≤ sizeLine; decide, fun q hq => ?_⟩
                  have s9 : Same H5 (upd H5 q (.lst [])) := same_new hq
                  have q9 : (upd H5 q (.lst [])) q = some (.lst []) := upd_same
                  generalize upd H5 q (.lst []) = H9 at s9 q9 ⊢
                  have hw9 := hw5.same s9
                  have st9 : Step [a] H H9 := (st4.trans (.of s5)).trans (.of s9)
                  have hD9 := s9 _ _ hD5
                  refine ⟨.list (cs.map PyData.str), .list [], .lst (SqL.of hD9) (strs_dp _), .lst (SqL.of q9) .nil, shaped_list (strs_good fun x hx => name_str (κ0_thr (hth x (List.mem_append_right _ (hc1 x hx).1))).2), by decide +kernel, _, rfl, ?_⟩
                  rw [eqv_nil]
                  by_cases hub0 : cs = []
                  · rw [hub0]
                    exact iteF (kN _ st9 hw9)
                  · have e0 : (!(cs.map PyData.str).isEmpty) = true := by
                      cases q1 : cs with
                      | nil => exact absurd q1 hub0
                      | cons _ _ => rfl
                    rw [e0]
                    refine iteT ?_
                    refine ⟨_, rfl, _, rfl, a, D, _, rfl, hw9, SqL.of hD9, nDa, by rw [List.length_map]; exact List.length_pos_iff.mpr hub0, by rw [List.length_map]; omega, fun x i m k hx => ?_⟩
                    rw [List.getElem?_map] at hx
                    obtain ⟨c, hcc, rfl⟩ := Option.map_eq_some_iff.mp hx
                    have hcm := hc1 c (List.mem_of_getElem? hcc)
                    obtain ⟨stA, hwA⟩ := step_well hw9 m k
                    generalize upd H9 a (.lst [.int m, .int k]) = HA at stA hwA ⊢
                    refine ⟨by show 3 ≤ sizeLine; decide, fun r hr' => ?_⟩
                    have sC : Same HA (upd HA r (.tup [.str "join", .str c, .non])) := same_new hr'
                    exact kE _ (.ref r) ⟨"join", some c, .non⟩ ((st9.trans stA).trans (.of sC)) (hwA.same sC) ⟨r, .non, rfl, SqT.of upd_same, rfl⟩ (fit_thr (.inr ⟨rfl, hcm.2, hcm.1⟩) (hth c (List.mem_append_right _ hcm.1)))
              · refine ifF (fun z => hjn (V.str.inj z)) ?_
                refine st_nx ?_
                dsimp only
                refine st_ret ?_
                refine ⟨_, rfl, by show 3 ≤ sizeLine; decide, fun r hr' => ?_⟩
                have sC : Same H4 (upd H4 r (.tup [.str wd, .non, .non])) := same_new hr'
                refine kE _ (.ref r) ⟨wd, none, .non⟩ (st4.trans (.of sC)) (hw4.same sC) ⟨r, .non, rfl, SqT.of upd_same, rfl⟩ (fit_lone ?_)
                simp only [drawWords, List.mem_cons, List.mem_nil_iff, or_false] at hwm
                simp only [wLone, List.mem_cons, List.mem_nil_iff, or_false]
                rcases hwm with h | h | h | h | h | h | h | h | h | h | h | h | h | h | h <;> first | exact .inl h | exact .inr h | exact absurd h hun | exact absurd h hfk | exact absurd h hjn | exact absurd (by rw [h]; decide +kernel) hc | exact absurd (by rw [h]; decide +kernel) hlk | exact absurd (by rw [h]; decide +kernel) hud
end
end Lg

/-! one part of the world changed -/
namespace Lg
open PySem L2 TL
section
variable {K : PySem.W.Frag} {H : Hp} {A : WA} {α : Str → Addr} {ns : List Str} {n : Nat} {S : WS}
theorem LkAt.mono {kvs : List (List Key × V)} {lk : Str → Str → Option Str} {n m : Nat} (h : LkAt kvs lk n) (hm : n ≤ m) : LkAt kvs lk m := ⟨h.val, h.key, h.word, Nat.le_trans h.len hm⟩
theorem WorldAt.nei (h : WorldAt K H A α ns n S) {i j : Nat} {x y : Addr} (hx : A.own[i]? = some x) (hy : A.own[j]? = some y) (hij : i ≠ j) : x ≠ y := by
  have nd := (List.nodup_append.mp h.nd).1
  obtain ⟨hi, e1⟩ := List.getElem?_eq_some_iff.mp hx
  obtain ⟨hj, e2⟩ := List.getElem?_eq_some_iff.mp hy
  intro z
  exact hij ((List.getElem_inj (h₀ := hi) (h₁ := hj) nd).mp (by rw [e1, e2, z]))
theorem WorldAt.neR (h : WorldAt K H A α ns n S) {i : Nat} {x : Addr} {t : Str} (hx : A.own[i]? = some x) (ht : t ∈ ns) : α t ≠ x := fun z =>
  (List.nodup_append.mp h.nd).2.2 x (List.mem_of_getElem? hx) (α t) (List.mem_map_of_mem ht) z.symm
theorem WorldAt.neT (h : WorldAt K H A α ns n S) {t u : Str} (ht : t ∈ ns) (hu : u ∈ ns) (e : t ≠ u) : α t ≠ α u := fun z => by
  have nd := (List.nodup_append.mp h.nd).2.1
  obtain ⟨i, hi⟩ := List.getElem?_of_mem ht
  obtain ⟨j, hj⟩ := List.getElem?_of_mem hu
  obtain ⟨i1, i2⟩ := List.getElem?_eq_some_iff.mp hi
  obtain ⟨j1, j2⟩ := List.getElem?_eq_some_iff.mp hj
  have q := (List.getElem_inj (i := i) (j := j) (h₀ := by simpa using i1) (h₁ := by simpa using j1) nd).mp (by simp [i2, j2, z])
  subst q
  exact e (i2.symm.trans j2)
theorem WorldAt.rowv (h : WorldAt K H A α ns n S) {t : Str} (ht : t ∈ ns) : DGet H A.ra (.str t) (some (.ref (α t))) := by
  have e : valV (ns.map fun t => ((Sum.inr t : Key), V.ref (α t))) (Sum.inr t) = some (.ref (α t)) := by
    have hz := h.rw
    clear h hz
    induction ns with
    | nil => cases ht
    | cons u r ih =>
      by_cases q : u = t
      · subst q
        exact valV_pos rfl
      · rw [List.map_cons, valV_neg (fun z => q (Sum.inr.inj z))]
        exact ih ((List.mem_cons.mp ht).resolve_left fun z => q z.symm)
  rw [← e]
  exact DGet.k (k := Sum.inr t) h.rw
theorem WorldAt.putLo (h : WorldAt K H A α ns n S) {kvs : List (List Key × V)} {lk' : Str → Str → Option Str} (hk : LkAt kvs lk' (n + 1)) : WorldAt K (upd H A.lo (.dT kvs)) A α ns (n + 1) { S with lk := lk' } := by
  have q : ∀ (j : Nat) (b : Addr) (u : HO), A.own[j]? = some b → j ≠ 3 → H b = some u → (upd H A.lo (.dT kvs)) b = some u := fun j b u hb hj e => by rw [upd_ne (h.nei hb (j := 3) rfl hj)]; exact e
  obtain ⟨lk, lk1, lk2⟩ := h.loc
  obtain ⟨mk, mk1, mk2, mk3⟩ := h.me
  obtain ⟨ci, cj, co⟩ := h.co
  have st : Step [A.lo] H (upd H A.lo (.dT kvs)) := .put lk1 rfl
  exact ⟨q 0 _ _ rfl (by decide) h.wd, q 1 _ _ rfl (by decide) h.rw, fun t ht => let ⟨xs, h1, h2⟩ := h.row t ht; ⟨xs, by rw [upd_ne (h.neR (i := 3) rfl ht)]; exact h1, evs_step st h2⟩, q 2 _ _ rfl (by decide) h.run, ⟨kvs, upd_same, hk⟩, q 4 _ _ rfl (by decide) h.en, q 5 _ _ rfl (by decide) h.un, q 6 _ _ rfl (by decide) h.li, q 7 _ _ rfl (by decide) h.ce, ⟨mk, q 8 _ _ rfl (by decide) mk1, mk2, Nat.le_succ_of_le mk3⟩, ⟨ci, cj, q 9 _ _ rfl (by decide) co⟩, h.nd, Nat.le_succ_of_le h.sz, h.cs⟩
theorem WorldAt.putEn (h : WorldAt K H A α ns n S) {l : List Str} : WorldAt K (upd H A.en (.lst (l.map V.str))) A α ns (n + 1) { S with ended := l } := by
  have q : ∀ (j : Nat) (b : Addr) (u : HO), A.own[j]? = some b → j ≠ 4 → H b = some u → (upd H A.en (.lst (l.map V.str))) b = some u := fun j b u hb hj e => by rw [upd_ne (h.nei hb (j := 4) rfl hj)]; exact e
  obtain ⟨lk, lk1, lk2⟩ := h.loc
  obtain ⟨mk, mk1, mk2, mk3⟩ := h.me
  obtain ⟨ci, cj, co⟩ := h.co
  have st : Step [A.en] H (upd H A.en (.lst (l.map V.str))) := .put h.en rfl
  exact ⟨q 0 _ _ rfl (by decide) h.wd, q 1 _ _ rfl (by decide) h.rw, fun t ht => let ⟨xs, h1, h2⟩ := h.row t ht; ⟨xs, by rw [upd_ne (h.neR (i := 4) rfl ht)]; exact h1, evs_step st h2⟩, q 2 _ _ rfl (by decide) h.run, ⟨lk, q 3 _ _ rfl (by decide) lk1, lk2.mono (Nat.le_succ _)⟩, upd_same, q 5 _ _ rfl (by decide) h.un, q 6 _ _ rfl (by decide) h.li, q 7 _ _ rfl (by decide) h.ce, ⟨mk, q 8 _ _ rfl (by decide) mk1, mk2, Nat.le_succ_of_le mk3⟩, ⟨ci, cj, q 9 _ _ rfl (by decide) co⟩, h.nd, Nat.le_succ_of_le h.sz, h.cs⟩
theorem WorldAt.putUn (h : WorldAt K H A α ns n S) {l : List Str} : WorldAt K (upd H A.un (.lst (l.map V.str))) A α ns (n + 1) { S with unborn := l } := by
  have q : ∀ (j : Nat) (b : Addr) (u : HO), A.own[j]? = some b → j ≠ 5 → H b = some u → (upd H A.un (.lst (l.map V.str))) b = some u := fun j b u hb hj e => by rw [upd_ne (h.nei hb (j := 5) rfl hj)]; exact e
  obtain ⟨lk, lk1, lk2⟩ := h.loc
  obtain ⟨mk, mk1, mk2, mk3⟩ := h.me
  obtain ⟨ci, cj, co⟩ := h.co
  have st : Step [A.un] H (upd H A.un (.lst (l.map V.str))) := .put h.un rfl
  exact ⟨q 0 _ _ rfl (by decide) h.wd, q 1 _ _ rfl (by decide) h.rw, fun t ht => let ⟨xs, h1, h2⟩ := h.row t ht; ⟨xs, by rw [upd_ne (h.neR (i := 5) rfl ht)]; exact h1, evs_step st h2⟩, q 2 _ _ rfl (by decide) h.run, ⟨lk, q 3 _ _ rfl (by decide) lk1, lk2.mono (Nat.le_succ _)⟩, q 4 _ _ rfl (by decide) h.en, upd_same, q 6 _ _ rfl (by decide) h.li, q 7 _ _ rfl (by decide) h.ce, ⟨mk, q 8 _ _ rfl (by decide) mk1, mk2, Nat.le_succ_of_le mk3⟩, ⟨ci, cj, q 9 _ _ rfl (by decide) co⟩, h.nd, Nat.le_succ_of_le h.sz, h.cs⟩
theorem WorldAt.putLi (h : WorldAt K H A α ns n S) {l : List Str} : WorldAt K (upd H A.li (.lst (l.map V.str))) A α ns (n + 1) { S with live := l } := by
  have q : ∀ (j : Nat) (b : Addr) (u : HO), A.own[j]? = some b → j ≠ 6 → H b = some u → (upd H A.li (.lst (l.map V.str))) b = some u := fun j b u hb hj e => by rw [upd_ne (h.nei hb (j := 6) rfl hj)]; exact e
  obtain ⟨lk, lk1, lk2⟩ := h.loc
  obtain ⟨mk, mk1, mk2, mk3⟩ := h.me
  obtain ⟨ci, cj, co⟩ := h.co
  have st : Step [A.li] H (upd H A.li (.lst (l.map V.str))) := .put h.li rfl
  exact ⟨q 0 _ _ rfl (by decide) h.wd, q 1 _ _ rfl (by decide) h.rw, fun t ht => let ⟨xs, h1, h2⟩ := h.row t ht; ⟨xs, by rw [upd_ne (h.neR (i := 6) rfl ht)]; exact h1, evs_step st h2⟩, q 2 _ _ rfl (by decide) h.run, ⟨lk, q 3 _ _ rfl (by decide) lk1, lk2.mono (Nat.le_succ _)⟩, q 4 _ _ rfl (by decide) h.en, q 5 _ _ rfl (by decide) h.un, upd_same, q 7 _ _ rfl (by decide) h.ce, ⟨mk, q 8 _ _ rfl (by decide) mk1, mk2, Nat.le_succ_of_le mk3⟩, ⟨ci, cj, q 9 _ _ rfl (by decide) co⟩, h.nd, Nat.le_succ_of_le h.sz, h.cs⟩
theorem WorldAt.putRun (h : WorldAt K H A α ns n S) {l : List Str} (hl : l.length ≤ n + 1) : WorldAt K (upd H A.ru (.lst (l.map V.str))) A α ns (n + 1) { S with run := l } := by
  have q : ∀ (j : Nat) (b : Addr) (u : HO), A.own[j]? = some b → j ≠ 2 → H b = some u → (upd H A.ru (.lst (l.map V.str))) b = some u := fun j b u hb hj e => by rw [upd_ne (h.nei hb (j := 2) rfl hj)]; exact e
  obtain ⟨lk, lk1, lk2⟩ := h.loc
  obtain ⟨mk, mk1, mk2, mk3⟩ := h.me
  obtain ⟨ci, cj, co⟩ := h.co
  have st : Step [A.ru] H (upd H A.ru (.lst (l.map V.str))) := .put h.run rfl
  exact ⟨q 0 _ _ rfl (by decide) h.wd, q 1 _ _ rfl (by decide) h.rw, fun t ht => let ⟨xs, h1, h2⟩ := h.row t ht; ⟨xs, by rw [upd_ne (h.neR (i := 2) rfl ht)]; exact h1, evs_step st h2⟩, upd_same, ⟨lk, q 3 _ _ rfl (by decide) lk1, lk2.mono (Nat.le_succ _)⟩, q 4 _ _ rfl (by decide) h.en, q 5 _ _ rfl (by decide) h.un, q 6 _ _ rfl (by decide) h.li, q 7 _ _ rfl (by decide) h.ce, ⟨mk, q 8 _ _ rfl (by decide) mk1, mk2, Nat.le_succ_of_le mk3⟩, ⟨ci, cj, q 9 _ _ rfl (by decide) co⟩, h.nd, hl, h.cs⟩
theorem WorldAt.putMe (h : WorldAt K H A α ns n S) {kvs : List (Key × V)} (hk : (∀ c ∈ S.cells, ∃ i, valV kvs (Sum.inr c) = some (.int i)) ∧ kvs.length ≤ n + 1) : WorldAt K (upd H A.me (.dK kvs)) A α ns (n + 1) S := by
  have q : ∀ (j : Nat) (b : Addr) (u : HO), A.own[j]? = some b → j ≠ 8 → H b = some u → (upd H A.me (.dK kvs)) b = some u := fun j b u hb hj e => by rw [upd_ne (h.nei hb (j := 8) rfl hj)]; exact e
  obtain ⟨lk, lk1, lk2⟩ := h.loc
  obtain ⟨mk, mk1, mk2, mk3⟩ := h.me
  obtain ⟨ci, cj, co⟩ := h.co
  have st : Step [A.me] H (upd H A.me (.dK kvs)) := .put mk1 rfl
  exact ⟨q 0 _ _ rfl (by decide) h.wd, q 1 _ _ rfl (by decide) h.rw, fun t ht => let ⟨xs, h1, h2⟩ := h.row t ht; ⟨xs, by rw [upd_ne (h.neR (i := 8) rfl ht)]; exact h1, evs_step st h2⟩, q 2 _ _ rfl (by decide) h.run, ⟨lk, q 3 _ _ rfl (by decide) lk1, lk2.mono (Nat.le_succ _)⟩, q 4 _ _ rfl (by decide) h.en, q 5 _ _ rfl (by decide) h.un, q 6 _ _ rfl (by decide) h.li, q 7 _ _ rfl (by decide) h.ce, ⟨kvs, upd_same, hk⟩, ⟨ci, cj, q 9 _ _ rfl (by decide) co⟩, h.nd, Nat.le_succ_of_le h.sz, h.cs⟩
theorem WorldAt.putCo (h : WorldAt K H A α ns n S) {i1 i2 : Int} : WorldAt K (upd H A.co (.dK [(Sum.inr "s", .int i1), (Sum.inr "t", .int i2)])) A α ns (n + 1) S := by
  have q : ∀ (j : Nat) (b : Addr) (u : HO), A.own[j]? = some b → j ≠ 9 → H b = some u → (upd H A.co (.dK [(Sum.inr "s", .int i1), (Sum.inr "t", .int i2)])) b = some u := fun j b u hb hj e => by rw [upd_ne (h.nei hb (j := 9) rfl hj)]; exact e
  obtain ⟨lk, lk1, lk2⟩ := h.loc
  obtain ⟨mk, mk1, mk2, mk3⟩ := h.me
  obtain ⟨ci, cj, co⟩ := h.co
  have st : Step [A.co] H (upd H A.co (.dK [(Sum.inr "s", .int i1), (Sum.inr "t", .int i2)])) := .put co rfl
  exact ⟨q 0 _ _ rfl (by decide) h.wd, q 1 _ _ rfl (by decide) h.rw, fun t ht => let ⟨xs, h1, h2⟩ := h.row t ht; ⟨xs, by rw [upd_ne (h.neR (i := 9) rfl ht)]; exact h1, evs_step st h2⟩, q 2 _ _ rfl (by decide) h.run, ⟨lk, q 3 _ _ rfl (by decide) lk1, lk2.mono (Nat.le_succ _)⟩, q 4 _ _ rfl (by decide) h.en, q 5 _ _ rfl (by decide) h.un, q 6 _ _ rfl (by decide) h.li, q 7 _ _ rfl (by decide) h.ce, ⟨mk, q 8 _ _ rfl (by decide) mk1, mk2, Nat.le_succ_of_le mk3⟩, ⟨i1, i2, upd_same⟩, h.nd, Nat.le_succ_of_le h.sz, h.cs⟩
theorem WorldAt.putRow (h : WorldAt K H A α ns n S) {t : Str} {xs : List V} {rows' : Rows} (ht : t ∈ ns) (hx : Paired (EvAt K H) xs (rowOf rows' t)) (ho : ∀ u ∈ ns, u ≠ t → rowOf rows' u = rowOf S.rows u) :
    WorldAt K (upd H (α t) (.lst xs)) A α ns (n + 1) { S with rows := rows' } := by
  have q : ∀ (j : Nat) (b : Addr) (u : HO), A.own[j]? = some b → H b = some u → (upd H (α t) (.lst xs)) b = some u := fun j b u hb e => by rw [upd_ne (h.neR hb ht).symm]; exact e
  obtain ⟨lk, lk1, lk2⟩ := h.loc
  obtain ⟨mk, mk1, mk2, mk3⟩ := h.me
  obtain ⟨ci, cj, co⟩ := h.co
  obtain ⟨ys, y1, y2⟩ := h.row t ht
  have st : Step [α t] H (upd H (α t) (.lst xs)) := .put y1 rfl
  refine ⟨q 0 _ _ rfl h.wd, q 1 _ _ rfl h.rw, fun u hu => ?_, q 2 _ _ rfl h.run, ⟨lk, q 3 _ _ rfl lk1, lk2.mono (Nat.le_succ _)⟩, q 4 _ _ rfl h.en, q 5 _ _ rfl h.un, q 6 _ _ rfl h.li, q 7 _ _ rfl h.ce, ⟨mk, q 8 _ _ rfl mk1, mk2, Nat.le_succ_of_le mk3⟩, ⟨ci, cj, q 9 _ _ rfl co⟩, h.nd, Nat.le_succ_of_le h.sz, h.cs⟩
  by_cases e : u = t
  · subst e
    exact ⟨xs, upd_same, evs_step st hx⟩
  · obtain ⟨zs, z1, z2⟩ := h.row u hu
    refine ⟨zs, by rw [upd_ne (h.neT hu ht e)]; exact z1, ?_⟩
    show Paired _ zs (rowOf rows' u)
    rw [ho u hu e]
    exact evs_step st z2
theorem WorldAt.mono (h : WorldAt K H A α ns n S) {m : Nat} (hm : n ≤ m) : WorldAt K H A α ns m S := by
  obtain ⟨lk, lk1, lk2⟩ := h.loc
  obtain ⟨mk, mk1, mk2, mk3⟩ := h.me
  exact ⟨h.wd, h.rw, h.row, h.run, ⟨lk, lk1, lk2.mono hm⟩, h.en, h.un, h.li, h.ce, ⟨mk, mk1, mk2, Nat.le_trans mk3 hm⟩, h.co, h.nd, Nat.le_trans h.sz hm, h.cs⟩
end
end Lg

namespace Lg
open PySem L2 TL
def lkOn (lk : Str → Str → Option Str) (t : Str) (e : Ev) : Str → Str → Option Str := match e.o with
  | some x => if e.w ∈ (["lock", "share"] : List Str) then fun l u => if l = x ∧ u = t then some e.w else lk l u else lk
  | none => lk
def lkOff (lk : Str → Str → Option Str) (t : Str) (e : Ev) : Str → Str → Option Str := match e.o with
  | some x => if e.w ∈ (["unlock", "unshare"] : List Str) then fun l u => if l = x ∧ u = t then none else lk l u else lk
  | none => lk
theorem on_kd {w : Str} (h : w ∈ (["lock", "share"] : List Str)) : kdOf w = .lock := by
  simp only [List.mem_cons, List.mem_nil_iff, or_false] at h
  rcases h with rfl | rfl <;> rfl
theorem off_kd {w : Str} (h : w ∈ (["unlock", "unshare"] : List Str)) : kdOf w = .lock := by
  simp only [List.mem_cons, List.mem_nil_iff, or_false] at h
  rcases h with rfl | rfl <;> rfl
theorem on_off {w : Str} (h : w ∈ (["lock", "share"] : List Str)) : w ∉ (["unlock", "unshare"] : List Str) := by
  simp only [List.mem_cons, List.mem_nil_iff, or_false] at h
  rcases h with rfl | rfl <;> decide +kernel
theorem lkOn_no {lk : Str → Str → Option Str} {t : Str} {e : Ev} (h : e.w ∉ (["lock", "share"] : List Str)) : lkOn lk t e = lk := by
  unfold lkOn
  cases e.o with
  | none => rfl
  | some x => dsimp only; rw [if_neg h]
theorem lkOff_no {lk : Str → Str → Option Str} {t : Str} {e : Ev} (h : e.w ∉ (["unlock", "unshare"] : List Str)) : lkOff lk t e = lk := by
  unfold lkOff
  cases e.o with
  | none => rfl
  | some x => dsimp only; rw [if_neg h]
theorem lkOn_yes {lk : Str → Str → Option Str} {t x : Str} {e : Ev} (h : e.w ∈ (["lock", "share"] : List Str)) (hx : e.o = some x) : lkOn lk t e = fun l u => if l = x ∧ u = t then some e.w else lk l u := by
  unfold lkOn
  rw [hx]
  dsimp only
  rw [if_pos h]
theorem lkOff_yes {lk : Str → Str → Option Str} {t x : Str} {e : Ev} (h : e.w ∈ (["unlock", "unshare"] : List Str)) (hx : e.o = some x) : lkOff lk t e = fun l u => if l = x ∧ u = t then none else lk l u := by
  unfold lkOff
  rw [hx]
  dsimp only
  rw [if_pos h]
theorem lk_other {lk : Str → Str → Option Str} {t : Str} {e : Ev} {u : Str} (hu : u ≠ t) (l : Str) : lkOff (lkOn lk t e) t e l u = lk l u := by
  unfold lkOff lkOn
  cases e.o with
  | none => rfl
  | some x =>
    (try dsimp only)
    by_cases h2 : e.w ∈ (["unlock", "unshare"] : List Str)
    · rw [if_pos h2]
      (try dsimp only)
      rw [if_neg fun z => hu z.2]
      by_cases h1 : e.w ∈ (["lock", "share"] : List Str)
      · rw [if_pos h1]
        (try dsimp only)
        rw [if_neg fun z => hu z.2]
      · rw [if_neg h1]
    · rw [if_neg h2]
      by_cases h1 : e.w ∈ (["lock", "share"] : List Str)
      · rw [if_pos h1]
        (try dsimp only)
        rw [if_neg fun z => hu z.2]
      · rw [if_neg h1]
theorem lk_free {S : WS} {t x : Str} {e : Ev} (fit : EvFit S t e) (h : e.w ∈ (["lock", "share"] : List Str)) (hx : e.o = some x) : S.lk x t = none := by
  obtain ⟨h', hh⟩ := fit.held
  unfold heldE at hh
  rw [on_kd h, hx] at hh
  dsimp only at hh
  unfold heldGo at hh
  rw [if_pos h] at hh
  by_cases q : S.lk x t = none
  · exact q
  · rw [if_neg q] at hh
    cases hh
theorem lk_held {S : WS} {t x : Str} {e : Ev} (fit : EvFit S t e) (h : e.w ∈ (["unlock", "unshare"] : List Str)) (hx : e.o = some x) : S.lk x t = some (if e.w = "unlock" then ("lock" : Str) else "share") := by
  obtain ⟨h', hh⟩ := fit.held
  unfold heldE at hh
  rw [off_kd h, hx] at hh
  dsimp only at hh
  unfold heldGo at hh
  rw [if_neg fun z => on_off z h] at hh
  by_cases q : S.lk x t = some (if e.w = "unlock" then ("lock" : Str) else "share")
  · exact q
  · rw [if_neg q] at hh
    cases hh
theorem held_of {S : WS} {t : Str} {e : Ev} (fit : EvFit S t e) : heldE (fun l => S.lk l t) e = some (fun l => lkOff (lkOn S.lk t e) t e l t) := by
  by_cases h1 : e.w ∈ (["lock", "share"] : List Str)
  · obtain ⟨x, hx, _⟩ := kd_ok fit.ok (by rw [on_kd h1]; intro z; cases z)
    rw [lkOff_no (on_off h1), lkOn_yes h1 hx]
    unfold heldE
    rw [on_kd h1, hx]
    dsimp only
    unfold heldGo
    refine ((if_pos h1).trans (if_pos (lk_free fit h1 hx))).trans ?_
    refine congrArg some (funext fun y => ?_)
    by_cases q : y = x
    · rw [if_pos q, if_pos ⟨q, rfl⟩]
    · rw [if_neg q, if_neg fun z => q z.1]
  · by_cases h2 : e.w ∈ (["unlock", "unshare"] : List Str)
    · obtain ⟨x, hx, _⟩ := kd_ok fit.ok (by rw [off_kd h2]; intro z; cases z)
      rw [lkOn_no h1, lkOff_yes h2 hx]
      unfold heldE
      rw [off_kd h2, hx]
      dsimp only
      unfold heldGo
      refine ((if_neg h1).trans (if_pos (lk_held fit h2 hx))).trans ?_
      refine congrArg some (funext fun y => ?_)
      by_cases q : y = x
      · rw [if_pos q, if_pos ⟨q, rfl⟩]
      · rw [if_neg q, if_neg fun z => q z.1]
    · rw [lkOn_no h1, lkOff_no h2]
      unfold heldE
      have hk : kdOf e.w ≠ .lock := fun z => by
        have z := kd_lock.mp z
        simp only [wLock, List.mem_cons, List.mem_nil_iff, or_false] at z h1 h2
        rcases z with z | z | z | z
        · exact h1 (.inl z)
        · exact h2 (.inl z)
        · exact h1 (.inr z)
        · exact h2 (.inr z)
      cases q9 : kdOf e.w with
      | lock => exact absurd q9 hk
      | lone => rfl
      | cell => rfl
      | counter => rfl
      | thread => rfl
theorem LkAt.on {kvs : List (List Key × V)} {S : WS} {t x : Str} {e : Ev} {n : Nat} (h : LkAt kvs S.lk n) (fit : EvFit S t e) (ht : t ∈ thrNames) (hw : e.w ∈ (["lock", "share"] : List Str)) (hx : e.o = some x) : LkAt (putK kvs (Lkk x t) (.str e.w)) (lkOn S.lk t e) (n + 1) := by
  have hn : valV kvs (Lkk x t) = none := by rw [h.val, lk_free fit hw hx]; rfl
  have hl : x ∈ lockNames := by
    have := fit.kind (by rw [on_kd hw]; intro z; cases z) x hx
    rw [on_kd hw] at this
    unfold κ0 at this
    by_cases q1 : x ∈ (["x", "y", "z"] : List Str)
    · rw [if_pos q1] at this; cases this
    · rw [if_neg q1] at this
      by_cases q2 : x ∈ (["l", "m", "n"] : List Str)
      · exact q2
      · rw [if_neg q2] at this
        by_cases q3 : x ∈ (["s", "t"] : List Str)
        · rw [if_pos q3] at this; cases this
        · rw [if_neg q3] at this; cases this
  rw [lkOn_yes hw hx]
  refine ⟨fun l u => ?_, fun kv hkv => ?_, fun l u w hw' => ?_, Nat.le_trans (length_putK _ _ _) (Nat.succ_le_succ h.len)⟩
  · rw [valV_put, h.val]
    by_cases q : l = x ∧ u = t
    · rw [if_pos (by rw [q.1, q.2]), if_pos q]
      rfl
    · rw [if_neg q, if_neg]
      intro z
      injection z with z1 z2
      injection z2 with z2 _
      exact q ⟨Sum.inr.inj z1, Sum.inr.inj z2⟩
  · rw [putK_new _ hn] at hkv
    rcases List.mem_append.mp hkv with q | q
    · exact h.key kv q
    · rw [List.mem_singleton.mp q]
      exact ⟨x, t, rfl, hl, ht⟩
  · by_cases q : l = x ∧ u = t
    · rw [if_pos q] at hw'
      have := Option.some.inj hw'
      subst this
      simpa using hw
    · rw [if_neg q] at hw'
      exact h.word l u w hw'
theorem LkAt.off {kvs : List (List Key × V)} {lk : Str → Str → Option Str} {t x : Str} {e : Ev} {n : Nat} (h : LkAt kvs lk n) (hw : e.w ∈ (["unlock", "unshare"] : List Str)) (hx : e.o = some x) : LkAt (dropK kvs (Lkk x t)) (lkOff lk t e) n := by
  rw [lkOff_yes hw hx]
  refine ⟨fun l u => ?_, fun kv hkv => h.key kv (dropK_mem hkv), fun l u w hw' => ?_, Nat.le_trans (dropK_le _ _) h.len⟩
  · rw [valV_drop, h.val]
    by_cases q : l = x ∧ u = t
    · rw [if_pos (by rw [q.1, q.2]), if_pos q]
      rfl
    · rw [if_neg q, if_neg]
      intro z
      injection z with z1 z2
      injection z2 with z2 _
      exact q ⟨Sum.inr.inj z1, Sum.inr.inj z2⟩
  · by_cases q : l = x ∧ u = t
    · rw [if_pos q] at hw'
      cases hw'
    · rw [if_neg q] at hw'
      exact h.word l u w hw'
theorem addEv_row {rows : Rows} {t : Str} {e : Ev} {u : Str} (hu : u ∈ rows.map (·.1)) : rowOf (addEv rows t e) u = if u = t then rowOf rows u ++ [e] else rowOf rows u := by
  obtain ⟨es, hes⟩ := lookup_mem (rows := rows) (t := u) hu
  rw [rowOf, addEv_lookup, rowOf, hes]
  rfl
theorem first_at {l : List Str} {x : Str} (h : x ∈ l) : ∃ j, ∃ hj : j < l.length, l[j] = x ∧ ∀ m : Nat, m < j → l[m]? ≠ some x := by
  induction l with
  | nil => cases h
  | cons y r ih =>
    by_cases e : y = x
    · exact ⟨0, Nat.succ_pos _, e, fun m hm => absurd hm (Nat.not_lt_zero _)⟩
    · obtain ⟨j, hj, h1, h2⟩ := ih ((List.mem_cons.mp h).resolve_left fun z => e z.symm)
      refine ⟨j + 1, Nat.succ_lt_succ hj, h1, fun m hm => ?_⟩
      cases m with
      | zero => simpa using e
      | succ m => simpa using h2 m (by omega)
end Lg

namespace Lg
open PySem L2 TL
theorem lookup_pair {rows : Rows} {t : Str} {es : List Ev} (h : rows.lookup t = some es) : (t, es) ∈ rows := by
  induction rows with
  | nil => cases h
  | cons p r ih =>
    obtain ⟨y, ys⟩ := p
    by_cases e : t = y
    · subst e
      rw [List.lookup_cons_self] at h
      cases h
      exact List.mem_cons_self
    · have e1 : (t == y) = false := beq_eq_false_iff_ne.mpr e
      rw [List.lookup_cons, e1] at h
      exact List.mem_cons_of_mem _ (ih h)
theorem row_le (rows : Rows) (t : Str) : (rowOf rows t).length ≤ (rows.map (·.2)).flatten.length := by
  unfold rowOf
  cases h : rows.lookup t with
  | none => exact Nat.zero_le _
  | some es =>
    obtain ⟨i, hi⟩ := List.getElem?_of_mem (lookup_pair h)
    have := cnt_take hi
    simp only [Option.getD_some]
    dsimp only at this
    omega
section
variable {P : Program} {w : World} {K : PySem.W.Frag} {mg : Str → Option Value} {base : Heap} {f : Addr} {fd : FuncData}
abbrev s_law_happen : Stmt := top 34
theorem sc_law_happen : FnScope ["_law_world", "_law_thread", "_law_event_here", "_law_word", "_law_name", "_law_value"] ["_law_world", "_law_thread", "_law_event_here"] (defScope s_law_happen) := ⟨rfl, rfl, rfl, by decide +kernel, rfl, by decide +kernel, by decide +kernel⟩
def spLH (K : PySem.W.Frag) : Sp := fun vs H Q _ => ∃ (A : WA) (α : Str → Addr) (ns : List Str) (n : Nat) (S : WS) (t : Str) (v : V) (e : Ev), vs = [.ref A.wa, .str t, v] ∧ WorldAt K H A α ns n S ∧ n ≤ 400 ∧ EvAt K H v e ∧ EvFit S t e ∧ WG ns S.rows S.live S.ended S.unborn S.lk ∧ t ∈ S.live ∧ (S.rows.map (·.2)).flatten.length ≤ 400 ∧
  ∀ H' S', Step (A.own ++ ns.map α) H H' → WorldAt K H' A α ns (n + 10) S' → WG ns S'.rows S'.live S'.ended S'.unborn S'.lk → S'.rows = addEv S.rows t e → S'.cells = S.cells → Q .non H'
theorem ok_law_happen (F : Fun K "_law_happen" "_law_happen" s_law_happen f fd) (T : Gb K mg) : FnOk P w K mg base CX0 1 f fd ["_law_world", "_law_thread", "_law_event_here"] (spLH K) := by
  refine F.ok sc_law_happen (fun vs H Q E h => ?_) (fun cdv A outer s H vs Q E hr h => ?_)
  · obtain ⟨A, α, ns, n, S, t, v, e, rfl, _⟩ := h
    rfl
  · obtain ⟨A, α, ns, n, S, t, v, e, rfl, W, hn, ⟨tv, zv, rfl, htv, hzv⟩, fit, g, htl, hfl, k⟩ := h
    have hu := hu_of hr
    have htn : t ∈ ns := g.psub t (by simp [htl])
    have htr : t ∈ S.rows.map (·.1) := by rw [g.nms]; exact htn
    refine ⟨_, pss_cons (ps_asg (pv 2) (pg_tup rfl (pgs_cons (pg_name (i := 3) sc_law_happen.nd rfl (Or.inl rfl)) (pgs_cons (pg_name (i := 4) sc_law_happen.nd rfl (Or.inl rfl)) (pgs_cons (pg_name (i := 5) sc_law_happen.nd rfl (Or.inl rfl)) pgs_nil)))))
    (pss_cons (ps_expr (pe_bm PySem.F.plainAttrs_list PySem.F.slot_list_append PySem.F.type_list_append mt_append (pe_dget hu (pe_dget hu (pv 0) pe_str (fun _ _ => rfl)) (pv 1) (fun _ _ => rfl)) (pa_cons (pv 2) pa_nil)))
    (pss_cons (ps_expr (pe_bm PySem.F.plainAttrs_list PySem.F.slot_list_append PySem.F.type_list_append mt_append (pe_dget hu (pv 0) pe_str (fun _ _ => rfl)) (pa_cons (pv 1) pa_nil)))
    (pss_cons (ps_if (pt_cmpR op_in_seq (pv 3) (pe_tup (pa_cons pe_str (pa_cons pe_str pa_nil))) rfl) (pss_one (ps_dput hu (pe_dget hu (pv 0) pe_str (fun _ _ => rfl)) (pv 4) (pe_ifExp (pt_cmpR op_eq (pv 3) pe_str (nomark _)) (pv 5) (pe_ix ix_tup (pv 5) pe_int (fun _ _ => rfl))) rfl)) (pss_nil))
    (pss_cons (ps_if (pt_cmpR op_in_seq (pv 3) (pe_tup (pa_cons pe_str (pa_cons pe_str pa_nil))) rfl) (pss_one (ps_dput hu (pe_dget hu (pv 0) pe_str (fun _ _ => rfl)) (pe_tup (pa_cons (pv 4) (pa_cons (pv 1) pa_nil))) (pv 3) rfl)) (pss_nil))
    (pss_cons (ps_if (pt_cmpR op_in_seq (pv 3) (pe_tup (pa_cons pe_str (pa_cons pe_str pa_nil))) rfl) (pss_one (ps_expr (pe_bm PySem.F.plainAttrs_dict PySem.F.slot_dict_pop PySem.F.type_dict_pop (Rl.mt_popT1 hu) (pe_dget hu (pv 0) pe_str (fun _ _ => rfl)) (pa_cons (pe_tup (pa_cons (pv 4) (pa_cons (pv 1) pa_nil))) pa_nil)))) (pss_nil))
    (pss_cons (ps_if (pt_cmpR op_in_seq (pv 3) (pe_tup (pa_cons pe_str (pa_cons pe_str pa_nil))) rfl) (pss_one (ps_dput hu (pe_dget hu (pv 0) pe_str (fun _ _ => rfl)) (pv 4) (pe_op op_add (pe_dget hu (pe_dget hu (pv 0) pe_str (fun _ _ => rfl)) (pv 4) (fun _ _ => rfl)) (pe_ifExp (pt_cmpR op_eq (pv 3) pe_str (nomark _)) pe_int (pe_un un_neg pe_int))) rfl)) (pss_nil))
    (pss_cons (ps_if (pt_cmpR op_eq (pv 3) pe_str (nomark _)) (pss_cons (ps_expr (pe_bm PySem.F.plainAttrs_list PySem.F.slot_list_remove PySem.F.type_list_remove Rl.mt_removeS (pe_dget hu (pv 0) pe_str (fun _ _ => rfl)) (pa_cons (pv 4) pa_nil)))
    (pss_one (ps_expr (pe_bm PySem.F.plainAttrs_list PySem.F.slot_list_append PySem.F.type_list_append mt_append (pe_dget hu (pv 0) pe_str (fun _ _ => rfl)) (pa_cons (pv 4) pa_nil))))) (pss_nil))
    (pss_one (ps_if (pt_cmpR op_eq (pv 3) pe_str (nomark _)) (pss_cons (ps_expr (pe_bm PySem.F.plainAttrs_list PySem.F.slot_list_remove PySem.F.type_list_remove Rl.mt_removeS (pe_dget hu (pv 0) pe_str (fun _ _ => rfl)) (pa_cons (pv 1) pa_nil)))
    (pss_one (ps_expr (pe_bm PySem.F.plainAttrs_list PySem.F.slot_list_append PySem.F.type_list_append mt_append (pe_dget hu (pv 0) pe_str (fun _ _ => rfl)) (pa_cons (pv 1) pa_nil))))) (pss_nil)))))))))), ?_⟩
    refine st_asgG ?_
    refine ⟨_, rfl, tv, _, rfl, htv, rfl, _, _, rfl, _, _, rfl, _, _, rfl, rfl, ?_⟩
    -- rows
    refine st_drop ?_
    obtain ⟨xs, x1, x2⟩ := W.row t htn
    have hxl : xs.length ≤ 400 := by
      have e1 := Paired.length x2
      have e2 := row_le S.rows t
      omega
    refine ⟨_, rfl, A.wa, _, rfl, W.get (kv_rows A), _, rfl, A.ra, _, rfl, W.rowv htn, .inl ⟨rfl, _, SqL.of x1⟩, _, rfl, α t, xs, _, rfl, rfl, x1, Nat.lt_of_le_of_lt (show xs.length ≤ 1000 by omega) (by decide), ?_⟩
    have W1 : WorldAt K (upd H (α t) (.lst (xs ++ [.ref tv]))) A α ns (n + 1) { S with rows := addEv S.rows t e } := by
      refine W.putRow htn ?_ ?_
      · rw [addEv_row htr, if_pos rfl]
        exact paired_push x2 ⟨tv, zv, rfl, htv, hzv⟩
      · intro u hu' hne
        rw [addEv_row (by rw [g.nms]; exact hu'), if_neg hne]
    have L1 : Step (A.own ++ ns.map α) H (upd H (α t) (.lst (xs ++ [.ref tv]))) := (StepB.put x1 rfl).wide (by intro b hb; rw [List.mem_singleton.mp hb]; exact .inl (List.mem_append_right _ (List.mem_map_of_mem htn)))
    generalize upd H (α t) (.lst (xs ++ [.ref tv])) = H1 at W1 L1 ⊢
    -- run
    refine st_drop ?_
    have hrl : S.run.length ≤ 400 := Nat.le_trans W.sz hn
    refine ⟨_, rfl, A.wa, _, rfl, W1.get (kv_run A), .inl ⟨rfl, _, SqL.of W1.run⟩, _, rfl, A.ru, _, _, rfl, rfl, W1.run, by rw [List.length_map]; exact Nat.lt_of_le_of_lt (show S.run.length ≤ 1000 by omega) (by decide), ?_⟩
    have W2 := W1.putRun (l := S.run ++ [t]) (by rw [List.length_append]; have := W.sz; simp; omega)
    rw [List.map_append] at W2
    have L2 : Step (A.own ++ ns.map α) H (upd H1 A.ru (.lst (S.run.map V.str ++ [.str t]))) := L1.trans ((StepB.put W1.run rfl).wide (by intro b hb; rw [List.mem_singleton.mp hb]; exact .inl (by simp [WA.own])))
    have W2 : WorldAt K (upd H1 A.ru (.lst (S.run.map V.str ++ [.str t]))) A α ns (n + 2) { S with rows := addEv S.rows t e, run := S.run ++ [t] } := W2
    show tSeq _ _ _ _ (upd H1 A.ru (.lst (S.run.map V.str ++ [.str t])))
    generalize upd H1 A.ru (.lst (S.run.map V.str ++ [.str t])) = H2 at W2 L2 ⊢
    clear W1 L1 x1 x2 hxl
    have ez : ∀ H', Step (A.own ++ ns.map α) H H' → VlAt K H' zv e.z := fun H' q => hzv.step q
    have own : ∀ b, b ∈ A.own → ∀ c ∈ [b], c ∈ A.own ++ ns.map α ∨ H c = none := fun b hb c hc => by rw [List.mem_singleton.mp hc]; exact .inl (List.mem_append_left _ hb)
    -- memory
    refine st_ifJ (fun σ' H' => σ' = [some (.ref A.wa), some (.str t), some (.ref tv), some (.str e.w), some (oV e.o), some zv] ∧ Step (A.own ++ ns.map α) H H' ∧ WorldAt K H' A α ns (n + 3) { S with rows := addEv S.rows t e, run := S.run ++ [t] }) (fun R hR => ?_) ?_
    · refine ⟨_, rfl, in_tup ["write", "swap"] (by decide) fun H3 s3 => ?_⟩
      have L3 : Step (A.own ++ ns.map α) H H3 := L2.trans (.of s3)
      have W3 := W2.same s3
      by_cases hc : e.w ∈ (["write", "swap"] : List Str)
      · refine ifT hc ?_
        have hk : kdOf e.w = .cell := by
          simp only [List.mem_cons, List.mem_nil_iff, or_false] at hc
          rcases hc with h | h <;> rw [h] <;> rfl
        obtain ⟨x, hx, _⟩ := kd_ok fit.ok (by rw [hk]; intro z; cases z)
        have hxc : x ∈ S.cells := fit.cell hk x hx
        obtain ⟨mk, mk1, mk2, mk3⟩ := W3.me
        have fin : ∀ i : Int, ∃ a H4, V.ref A.me = .ref a ∧ DPut H3 a (oV e.o) (.int i) H4 ∧ R [some (.ref A.wa), some (.str t), some (.ref tv), some (.str e.w), some (oV e.o), some zv] H4 := fun i => by
          refine ⟨A.me, _, rfl, by rw [hx]; exact DPut.k (k := Sum.inr x) mk1 (Nat.lt_of_le_of_lt (show mk.length ≤ 1000 by omega) (by decide)), hR _ _ ⟨rfl, L3.trans ((StepB.put mk1 rfl).wide (by intro b hb; rw [List.mem_singleton.mp hb]; exact .inl (by simp [WA.own]))), W3.putMe ⟨fun c hc => ?_, Nat.le_trans (length_putK _ _ _) (by omega)⟩⟩⟩
          rw [valV_put]
          by_cases q : c = x
          · exact ⟨i, by rw [if_pos (by rw [q])]⟩
          · rw [if_neg fun z => q (Sum.inr.inj z)]
            exact mk2 c hc
        have hok := fit.ok
        unfold Ev.ok at hok
        rw [hk] at hok
        have hz3 := ez H3 L3
        by_cases hsw : e.w = "write"
        · have h2 := hok.2
          rw [if_neg (by rw [hsw]; decide +kernel)] at h2
          obtain ⟨i, hi⟩ := h2
          rw [hi] at hz3
          have hz3 : zv = .int i := hz3
          subst hz3
          refine ⟨_, rfl, rfl, _, rfl, ifT (by rw [hsw]) ?_⟩
          exact ⟨_, rfl, _, rfl, A.wa, _, rfl, W3.get (kv_memory A), _, rfl, fin i⟩
        · have hs2 : e.w = "swap" := by
            simp only [List.mem_cons, List.mem_nil_iff, or_false] at hc
            exact hc.resolve_left hsw
          have h2 := hok.2
          rw [if_pos hs2] at h2
          obtain ⟨i, j, hi⟩ := h2
          rw [hi] at hz3
          obtain ⟨tz, rfl, htz⟩ := hz3
          refine ⟨_, rfl, rfl, _, rfl, ifF (fun z => hsw (V.str.inj z)) ?_⟩
          exact ⟨_, rfl, tz, _, _, _, rfl, rfl, htz, atI_nat (j := 1) rfl, _, rfl, A.wa, _, rfl, W3.get (kv_memory A), _, rfl, fin j⟩
      · exact ifF hc (hR _ _ ⟨rfl, L3, W3.mono (Nat.le_succ _)⟩)
    rintro σ' H3 ⟨rfl, L3, W3⟩
    -- locks put
    refine st_ifJ (fun σ' H' => σ' = [some (.ref A.wa), some (.str t), some (.ref tv), some (.str e.w), some (oV e.o), some zv] ∧ Step (A.own ++ ns.map α) H H' ∧ WorldAt K H' A α ns (n + 4) { S with rows := addEv S.rows t e, run := S.run ++ [t], lk := lkOn S.lk t e }) (fun R hR => ?_) ?_
    · refine ⟨_, rfl, in_tup ["lock", "share"] (by decide) fun H4 s4 => ?_⟩
      have L4 : Step (A.own ++ ns.map α) H H4 := L3.trans (.of s4)
      have W4 := W3.same s4
      by_cases hc : e.w ∈ (["lock", "share"] : List Str)
      · refine ifT hc ?_
        obtain ⟨x, hx, _⟩ := kd_ok fit.ok (by rw [on_kd hc]; intro z; cases z)
        obtain ⟨kvs, lo1, lk⟩ := W4.loc
        refine ⟨_, rfl, _, rfl, A.wa, _, rfl, W4.get (kv_locks A), _, rfl, _, rfl, by show 2 ≤ sizeLine; decide, fun q hq => ?_⟩
        have s5 : Same H4 (upd H4 q (.tup [oV e.o, .str t])) := same_new hq
        have q5 : (upd H4 q (.tup [oV e.o, .str t])) q = some (.tup ((Lkk x t).map kV)) := by rw [upd_same, hx]; rfl
        generalize upd H4 q (.tup [oV e.o, .str t]) = H5 at s5 q5 ⊢
        have W5 := W4.same s5
        have lo5 := s5 _ _ lo1
        refine ⟨A.lo, _, rfl, DPut.t (k := Lkk x t) lo5 q5 (Nat.lt_of_le_of_lt (show kvs.length ≤ 1000 from Nat.le_trans lk.len (by omega)) (by decide)), hR _ _ ⟨rfl, (L4.trans (.of s5)).trans ((StepB.put lo5 rfl).wide (by intro b hb; rw [List.mem_singleton.mp hb]; exact .inl (by simp [WA.own]))), ?_⟩⟩
        exact W5.putLo (LkAt.on lk fit (g.nsub t htn) hc hx)
      · refine ifF hc (hR _ _ ⟨rfl, L4, ?_⟩)
        rw [lkOn_no hc]
        exact W4.mono (Nat.le_succ _)
    rintro σ' H4 ⟨rfl, L4, W4⟩
    -- locks pop
    refine st_ifJ (fun σ' H' => σ' = [some (.ref A.wa), some (.str t), some (.ref tv), some (.str e.w), some (oV e.o), some zv] ∧ Step (A.own ++ ns.map α) H H' ∧ WorldAt K H' A α ns (n + 5) { S with rows := addEv S.rows t e, run := S.run ++ [t], lk := lkOff (lkOn S.lk t e) t e }) (fun R hR => ?_) ?_
    · refine ⟨_, rfl, in_tup ["unlock", "unshare"] (by decide) fun H5 s5 => ?_⟩
      have L5 : Step (A.own ++ ns.map α) H H5 := L4.trans (.of s5)
      have W5 := W4.same s5
      by_cases hc : e.w ∈ (["unlock", "unshare"] : List Str)
      · refine ifT hc ?_
        obtain ⟨x, hx, _⟩ := kd_ok fit.ok (by rw [off_kd hc]; intro z; cases z)
        obtain ⟨kvs, lo1, lk⟩ := W5.loc
        refine ⟨_, rfl, A.wa, _, rfl, W5.get (kv_locks A), .inr (.inr (.inl ⟨rfl, .inr ⟨_, lo1⟩⟩)), _, rfl, _, rfl, by show 2 ≤ sizeLine; decide, fun q hq => ?_⟩
        have s6 : Same H5 (upd H5 q (.tup [oV e.o, .str t])) := same_new hq
        have q6 : (upd H5 q (.tup [oV e.o, .str t])) q = some (.tup ((Lkk x t).map kV)) := by rw [upd_same, hx]; rfl
        generalize upd H5 q (.tup [oV e.o, .str t]) = H6 at s6 q6 ⊢
        have W6 := W5.same s6
        have lo6 := s6 _ _ lo1
        have hv : valV kvs (Lkk x t) = some (.str (if e.w = "unlock" then ("lock" : Str) else "share")) := by
          have e1 := lk.val x t
          dsimp only at e1
          rw [lkOn_no (fun z => on_off z hc), lk_held fit hc hx] at e1
          exact e1
        refine ⟨A.lo, kvs, Lkk x t, q, _, rfl, rfl, lo6, q6, hv, hR _ _ ⟨rfl, (L5.trans (.of s6)).trans ((StepB.put lo6 rfl).wide (by intro b hb; rw [List.mem_singleton.mp hb]; exact .inl (by simp [WA.own]))), ?_⟩⟩
        exact W6.putLo ((LkAt.off lk hc hx).mono (Nat.le_succ _))
      · refine ifF hc (hR _ _ ⟨rfl, L5, ?_⟩)
        rw [lkOff_no hc]
        exact W5.mono (Nat.le_succ _)
    rintro σ' H5 ⟨rfl, L5, W5⟩
    clear W2 W3 W4 L2 L3 L4 W
    -- counters
    refine st_ifJ (fun σ' H' => σ' = [some (.ref A.wa), some (.str t), some (.ref tv), some (.str e.w), some (oV e.o), some zv] ∧ Step (A.own ++ ns.map α) H H' ∧ WorldAt K H' A α ns (n + 6) { S with rows := addEv S.rows t e, run := S.run ++ [t], lk := lkOff (lkOn S.lk t e) t e }) (fun R hR => ?_) ?_
    · refine ⟨_, rfl, in_tup ["up", "down"] (by decide) fun H6 s6 => ?_⟩
      have L6 : Step (A.own ++ ns.map α) H H6 := L5.trans (.of s6)
      have W6 := W5.same s6
      by_cases hc : e.w ∈ (["up", "down"] : List Str)
      · refine ifT hc ?_
        have hk : kdOf e.w = .counter := by
          simp only [List.mem_cons, List.mem_nil_iff, or_false] at hc
          rcases hc with h | h <;> rw [h] <;> rfl
        obtain ⟨x, hx, _⟩ := kd_ok fit.ok (by rw [hk]; intro z; cases z)
        have hxc : x = "s" ∨ x = "t" := by
          have h0 := fit.kind (by rw [hk]; intro z; cases z) x hx
          rw [hk] at h0
          unfold κ0 at h0
          by_cases q1 : x ∈ (["x", "y", "z"] : List Str)
          · rw [if_pos q1] at h0; cases h0
          · rw [if_neg q1] at h0
            by_cases q2 : x ∈ (["l", "m", "n"] : List Str)
            · rw [if_pos q2] at h0; cases h0
            · rw [if_neg q2] at h0
              by_cases q3 : x ∈ (["s", "t"] : List Str)
              · simpa using q3
              · rw [if_neg q3] at h0; cases h0
        obtain ⟨i1, i2, hco⟩ := W6.co
        obtain ⟨i3, hi3, hput⟩ : ∃ i3, valV [((Sum.inr "s" : Key), V.int i1), (Sum.inr "t", V.int i2)] (Sum.inr x) = some (.int i3) ∧ ∀ i, ∃ j1 j2, putK [((Sum.inr "s" : Key), V.int i1), (Sum.inr "t", V.int i2)] (Sum.inr x) (.int i) = [((Sum.inr "s" : Key), V.int j1), (Sum.inr "t", V.int j2)] := by
          rcases hxc with rfl | rfl
          · exact ⟨i1, rfl, fun i => ⟨i, i2, rfl⟩⟩
          · exact ⟨i2, rfl, fun i => ⟨i1, i, rfl⟩⟩
        have fin : ∀ i : Int, ∃ a H4, V.ref A.co = .ref a ∧ DPut H6 a (oV e.o) (.int i) H4 ∧ R [some (.ref A.wa), some (.str t), some (.ref tv), some (.str e.w), some (oV e.o), some zv] H4 := fun i => by
          obtain ⟨j1, j2, ej⟩ := hput i
          refine ⟨A.co, _, rfl, by rw [hx]; exact DPut.k (k := Sum.inr x) hco (by show 2 < sizeLine; decide), hR _ _ ⟨rfl, L6.trans ((StepB.put hco rfl).wide (by intro b hb; rw [List.mem_singleton.mp hb]; exact .inl (by simp [WA.own]))), ?_⟩⟩
          rw [ej]
          exact W6.putCo
        refine ⟨_, rfl, A.wa, _, rfl, W6.get (kv_counters A), _, rfl, A.co, _, rfl, by rw [← hi3, hx]; exact DGet.k (k := Sum.inr x) hco, ?_⟩
        refine ⟨_, rfl, rfl, _, rfl, ?_⟩
        refine ite2 (fun _ => ?_) (fun _ => ?_)
        · exact ⟨_, _, rfl, rfl, _, rfl, A.wa, _, rfl, W6.get (kv_counters A), _, rfl, fin _⟩
        · exact ⟨1, rfl, _, _, rfl, rfl, _, rfl, A.wa, _, rfl, W6.get (kv_counters A), _, rfl, fin _⟩
      · exact ifF hc (hR _ _ ⟨rfl, L6, W6.mono (Nat.le_succ _)⟩)
    rintro σ' H6 ⟨rfl, L6, W6⟩
    -- fork
    have hdis := g.parts
    refine st_ifJ (fun σ' H' => σ' = [some (.ref A.wa), some (.str t), some (.ref tv), some (.str e.w), some (oV e.o), some zv] ∧ Step (A.own ++ ns.map α) H H' ∧ ∃ un li, WorldAt K H' A α ns (n + 8) { S with rows := addEv S.rows t e, run := S.run ++ [t], lk := lkOff (lkOn S.lk t e) t e, unborn := un, live := li } ∧
        (li ++ S.ended ++ un).Perm (S.live ++ S.ended ++ S.unborn) ∧ (∀ x ∈ un, x ∈ S.unborn ∧ (e.w = "fork" → e.o ≠ some x)) ∧ (e.w ≠ "fork" → li = S.live)) (fun R hR => ?_) ?_
    · refine ⟨_, rfl, rfl, _, rfl, ?_⟩
      by_cases hf : e.w = "fork"
      · refine ifT (by rw [hf]) ?_
        have hk : kdOf e.w = .thread := by rw [hf]; rfl
        obtain ⟨x, hx, _⟩ := kd_ok fit.ok (by rw [hk]; intro z; cases z)
        have hxu := fit.fork hf x hx
        obtain ⟨j, hj, hjx, hjm⟩ := first_at hxu
        refine st_drop ?_
        refine ⟨_, rfl, A.wa, _, rfl, W6.get (kv_unborn A), .inl ⟨rfl, _, SqL.of W6.un⟩, _, rfl, A.un, S.unborn, x, j, rfl, by rw [hx]; rfl, W6.un, by rw [← hjx]; exact List.getElem?_eq_getElem hj, hjm, ?_⟩
        have W7 := W6.putUn (l := S.unborn.eraseIdx j)
        have L7 : Step (A.own ++ ns.map α) H (upd H6 A.un (.lst ((S.unborn.eraseIdx j).map V.str))) := L6.trans ((StepB.put W6.un rfl).wide (by intro b hb; rw [List.mem_singleton.mp hb]; exact .inl (by simp [WA.own])))
        generalize upd H6 A.un (.lst ((S.unborn.eraseIdx j).map V.str)) = H7 at W7 L7 ⊢
        have hll : S.live.length ≤ 5 := by
          have e1 : S.live.length ≤ (S.live ++ S.ended ++ S.unborn).length := by simp only [List.length_append]; omega
          have e2 := StT.nodup_len g.parts g.psub
          have e3 := g.nlen.2
          omega
        refine ⟨_, rfl, A.wa, _, rfl, W7.get (kv_live A), .inl ⟨rfl, _, SqL.of W7.li⟩, _, rfl, A.li, _, _, rfl, rfl, W7.li, by rw [List.length_map]; exact Nat.lt_of_le_of_lt (show S.live.length ≤ 1000 by omega) (by decide), ?_⟩
        have W8 := W7.putLi (l := S.live ++ [x])
        rw [List.map_append] at W8
        have L8 : Step (A.own ++ ns.map α) H (upd H7 A.li (.lst (S.live.map V.str ++ [.str x]))) := L7.trans ((StepB.put W7.li rfl).wide (by intro b hb; rw [List.mem_singleton.mp hb]; exact .inl (by simp [WA.own])))
        have pe : (x :: S.unborn.eraseIdx j).Perm S.unborn := by
          have := erase_perm hj
          rw [hjx] at this
          exact this
        rw [hx]
        refine hR _ _ ⟨by rw [hx], L8, S.unborn.eraseIdx j, S.live ++ [x], W8, ?_, fun y hy => ?_, fun z => absurd hf z⟩
        · have p1 : (S.live ++ [x] ++ S.ended ++ S.unborn.eraseIdx j).Perm (S.live ++ S.ended ++ (x :: S.unborn.eraseIdx j)) := by
            simp only [List.append_assoc]
            refine List.Perm.append_left _ ?_
            exact (List.perm_middle (a := x) (l₁ := S.ended) (l₂ := S.unborn.eraseIdx j)).symm
          exact p1.trans (pe.append_left _)
        · refine ⟨pe.mem_iff.mp (List.mem_cons_of_mem _ hy), fun _ z => ?_⟩
          rw [hx] at z
          have z := Option.some.inj z
          subst z
          have nd : (x :: S.unborn.eraseIdx j).Nodup := pe.nodup_iff.mpr (List.nodup_append.mp g.parts).2.1
          exact (List.nodup_cons.mp nd).1 hy
      · refine ifF (fun z => hf (V.str.inj z)) (hR _ _ ⟨rfl, L6, S.unborn, S.live, W6.mono (by omega), List.Perm.refl _, fun x hx => ⟨hx, fun z => absurd z hf⟩, fun _ => rfl⟩)
    rintro σ' H8 ⟨rfl, L8, un, li, W8, pm, hun, hli⟩
    -- end
    have hnd : (li ++ S.ended ++ un).Nodup := pm.nodup_iff.mpr g.parts
    have hsb : ∀ x ∈ li ++ S.ended ++ un, x ∈ ns := fun x hx => g.psub x (pm.mem_iff.mp hx)
    refine st_ifl ?_
    refine ⟨_, rfl, rfl, _, rfl, ?_⟩
    by_cases he : e.w = "end"
    · refine ifT (by rw [he]) ?_
      have hl0 := hli (by rw [he]; decide +kernel)
      subst hl0
      obtain ⟨j, hj, hjx, hjm⟩ := first_at htl
      refine st_drop ?_
      refine ⟨_, rfl, A.wa, _, rfl, W8.get (kv_live A), .inl ⟨rfl, _, SqL.of W8.li⟩, _, rfl, A.li, S.live, t, j, rfl, rfl, W8.li, by rw [← hjx]; exact List.getElem?_eq_getElem hj, hjm, ?_⟩
      have W9 := W8.putLi (l := S.live.eraseIdx j)
      have L9 : Step (A.own ++ ns.map α) H (upd H8 A.li (.lst ((S.live.eraseIdx j).map V.str))) := L8.trans ((StepB.put W8.li rfl).wide (by intro b hb; rw [List.mem_singleton.mp hb]; exact .inl (by simp [WA.own])))
      generalize upd H8 A.li (.lst ((S.live.eraseIdx j).map V.str)) = H9 at W9 L9 ⊢
      have hll : S.ended.length ≤ 5 := by
        have e1 : S.ended.length ≤ (S.live ++ S.ended ++ S.unborn).length := by simp only [List.length_append]; omega
        have e2 := StT.nodup_len g.parts g.psub
        have e3 := g.nlen.2
        omega
      refine ⟨_, rfl, A.wa, _, rfl, W9.get (kv_ended A), .inl ⟨rfl, _, SqL.of W9.en⟩, _, rfl, A.en, _, _, rfl, rfl, W9.en, by rw [List.length_map]; exact Nat.lt_of_le_of_lt (show S.ended.length ≤ 1000 by omega) (by decide), ?_⟩
      have WB := W9.putEn (l := S.ended ++ [t])
      rw [List.map_append] at WB
      have LB : Step (A.own ++ ns.map α) H (upd H9 A.en (.lst (S.ended.map V.str ++ [.str t]))) := L9.trans ((StepB.put W9.en rfl).wide (by intro b hb; rw [List.mem_singleton.mp hb]; exact .inl (by simp [WA.own])))
      have pe : (t :: S.live.eraseIdx j).Perm S.live := by
        have := erase_perm hj
        rw [hjx] at this
        exact this
      have pm2 : (S.live.eraseIdx j ++ (S.ended ++ [t]) ++ un).Perm (S.live ++ S.ended ++ S.unborn) := by
        refine List.Perm.trans ?_ pm
        refine List.Perm.append_right _ ?_
        rw [← List.append_assoc]
        refine List.perm_append_comm.trans ?_
        show (t :: (S.live.eraseIdx j ++ S.ended)).Perm _
        exact (pe.append_right S.ended)
      refine k _ _ LB WB ?_ rfl rfl
      exact g.add htl fit.ok fit.kind fit.fork fit.join (held_of fit) (fun u hu' l => lk_other hu' l) (pm2.nodup_iff.mpr g.parts) (fun x hx => g.psub x (pm2.mem_iff.mp hx)) (fun x hx => by simp [hx]) (fun x hx => by
        rcases List.mem_append.mp hx with h | h
        · exact .inl h
        · exact .inr ⟨List.mem_singleton.mp h, he⟩) hun (fun _ => by simp)
    · refine ifF (fun z => he (V.str.inj z)) ?_
      refine st_nx ?_
      refine k _ _ L8 (W8.mono (by omega)) ?_ rfl rfl
      exact g.add htl fit.ok fit.kind fit.fork fit.join (held_of fit) (fun u hu' l => lk_other hu' l) hnd hsb (fun x hx => hx) (fun x hx => .inl hx) hun (fun z => absurd z he)
end
end Lg

namespace Lg
open PySem L2 TL
/-! ### dicts from pairs -/
theorem mergeK_app : ∀ (prs acc : List (Key × V)), (prs.map (·.1)).Nodup → (∀ p ∈ prs, p.1 ∉ acc.map (·.1)) → mergeK acc prs = acc ++ prs
  | [], acc, _, _ => by simp [mergeK]
  | p :: r, acc, nd, dj => by
    obtain ⟨n1, n2⟩ := List.nodup_cons.mp (show (p.1 :: r.map (·.1)).Nodup from nd)
    have e : valV acc p.1 = none := by
      cases q : valV acc p.1 with
      | none => rfl
      | some u => exact absurd (valV_in q) (dj p List.mem_cons_self)
    show mergeK (putK acc p.1 p.2) r = acc ++ p :: r
    rw [putK_new _ e, mergeK_app r _ n2 fun x hx => ?_, List.append_assoc]
    · rfl
    · rw [List.map_append]
      intro z
      rcases List.mem_append.mp z with z | z
      · exact dj x (List.mem_cons_of_mem _ hx) z
      · have z : x.1 = p.1 := by simpa using z
        exact n1 (by rw [← z]; exact List.mem_map_of_mem hx)
theorem mergeK_nd {prs : List (Key × V)} (nd : (prs.map (·.1)).Nodup) : mergeK [] prs = prs := by
  rw [mergeK_app prs [] nd (by simp)]
  rfl
/-- a table of whole numbers with text keys -/
def tbl (ks : List Str) (m : Str → Int) : List (Key × V) := ks.map fun x => ((Sum.inr x : Key), V.int (m x))
theorem inr_nd {ks : List Str} (h : ks.Nodup) : (ks.map (Sum.inr : Str → Key)).Nodup := by
  induction ks with
  | nil => exact List.nodup_nil
  | cons a r ih =>
    obtain ⟨n1, n2⟩ := List.nodup_cons.mp h
    refine List.nodup_cons.mpr ⟨fun z => ?_, ih n2⟩
    obtain ⟨b, hb, e⟩ := List.mem_map.mp z
    exact n1 (by rw [← Sum.inr.inj e]; exact hb)
theorem tbl_keys (ks : List Str) (m : Str → Int) : (tbl ks m).map (·.1) = ks.map Sum.inr := by
  unfold tbl
  rw [List.map_map]
  rfl
theorem tbl_nd {ks : List Str} {m : Str → Int} (h : ks.Nodup) : ((tbl ks m).map (·.1)).Nodup := by
  rw [tbl_keys]
  exact inr_nd h
theorem tbl_val (ks : List Str) (m : Str → Int) (x : Str) : valV (tbl ks m) (Sum.inr x) = if x ∈ ks then some (.int (m x)) else none := by
  unfold tbl
  induction ks with
  | nil => rfl
  | cons a r ih =>
    by_cases e : a = x
    · subst e
      rw [List.map_cons, valV_pos rfl, if_pos List.mem_cons_self]
    · rw [List.map_cons, valV_neg fun z => e (Sum.inr.inj z), ih]
      by_cases h : x ∈ r
      · rw [if_pos h, if_pos (List.mem_cons_of_mem _ h)]
      · rw [if_neg h, if_neg fun z => (List.mem_cons.mp z).elim (fun q => e q.symm) h]
theorem tbl_get {ks : List Str} (m : Str → Int) {x : Str} (h : x ∈ ks) : valV (tbl ks m) (Sum.inr x) = some (.int (m x)) := by rw [tbl_val, if_pos h]
/-! ### slices -/
theorem cut_to {xs : List V} {i : Int} (h : 0 ≤ i) : cutV xs none (some i) = xs.take i.toNat := by
  obtain ⟨k, rfl⟩ := Int.eq_ofNat_of_zero_le h
  unfold cutV
  rw [HT.sIx_none, List.drop_zero, HT.sIx_nat, Nat.sub_zero, Int.toNat_natCast]
  by_cases q : k ≤ xs.length
  · rw [Nat.min_eq_left q]
  · rw [Nat.min_eq_right (by omega), List.take_of_length_le (Nat.le_refl _), List.take_of_length_le (by omega)]
theorem cut_from {xs : List V} {i : Int} (h : 0 ≤ i) : cutV xs (some i) none = xs.drop i.toNat := by
  obtain ⟨k, rfl⟩ := Int.eq_ofNat_of_zero_le h
  unfold cutV
  rw [HT.sIx_none, HT.sIx_nat, Int.toNat_natCast]
  by_cases q : k ≤ xs.length
  · rw [Nat.min_eq_left q, List.take_of_length_le (by rw [List.length_drop]; omega)]
  · rw [Nat.min_eq_right (by omega), List.drop_of_length_le (Nat.le_refl _), List.drop_of_length_le (by omega), List.take_nil]
/-! ### joining -/
theorem st_asgJ (W : V → Hp → Prop) {te : TE} {i : Nat} {u : TS} {D : Ends} {σ : St} {H : Hp} (h : ∀ R : VK, (∀ x H1, W x H1 → R x H1) → te σ H R) (h2 : ∀ x H1, W x H1 → u D (σ.set i (some x)) H1) : tSeq (tAsg te (gName i)) u D σ H := h _ h2
/-- what a comprehension has made so far stands at D; the heap steps besides -/
def AccS (l : List Addr) (H1 : Hp) (D : Addr) (R : Nat → List V → Hp → Prop) : Nat → Hp → Prop := fun i H => Step l H1 H ∧ ∃ acc, H D = some (.lst acc) ∧ R i acc H
theorem accS0 {l : List Addr} {H1 : Hp} {D : Addr} {R : Nat → List V → Hp → Prop} (hD : H1 D = none) (h : R 0 [] (upd H1 D (.lst []))) : AccS l H1 D R 0 (upd H1 D (.lst [])) := ⟨.of (same_new hD), [], upd_same, h⟩
theorem accS_put {l : List Addr} {H1 H4 : Hp} {D : Addr} {R : Nat → List V → Hp → Prop} {i : Nat} {acc : List V} {y : V} (hD : H1 D = none) (s : Step l H1 H4) (h : H4 D = some (.lst acc)) (hl : acc.length < sizeLine) (r : R (i + 1) (acc ++ [y]) (upd H4 D (.lst (acc ++ [y])))) :
    ∃ acc, H4 D = some (.lst acc) ∧ acc.length < sizeLine ∧ AccS l H1 D R (i + 1) (upd H4 D (.lst (acc ++ [y]))) :=
  ⟨acc, h, hl, s.then (StepB.put h rfl) (by simp [hD]), _, upd_same, r⟩
/-! ### rows whose lists lie apart -/
structure LRowsAt (K : PySem.W.Frag) (H : Hp) (ra : Addr) (α : Str → Addr) (rows : Rows) : Prop where
  dict : H ra = some (.dK (rows.map fun p => ((Sum.inr p.1 : Key), V.ref (α p.1))))
  row : ∀ p ∈ rows, ∃ xs, H (α p.1) = some (.lst xs) ∧ Paired (EvAt K H) xs p.2
theorem LRowsAt.rows {K : PySem.W.Frag} {H : Hp} {ra : Addr} {α : Str → Addr} {rows : Rows} (h : LRowsAt K H ra α rows) : RowsAt K H ra rows := by
  refine ⟨_, h.dict, ?_⟩
  have q := h.row
  clear h
  induction rows with
  | nil => exact .nil
  | cons p r ih =>
    refine .cons ⟨rfl, ?_⟩ (ih fun x hx => q x (List.mem_cons_of_mem _ hx))
    obtain ⟨xs, h1, h2⟩ := q p List.mem_cons_self
    exact ⟨α p.1, xs, rfl, .inl (SqL.of h1), h2⟩
theorem LRowsAt.step {K : PySem.W.Frag} {nt : Bool} {l : List Addr} {H H' : Hp} {ra : Addr} {α : Str → Addr} {rows : Rows} (h : LRowsAt K H ra α rows) (s : StepB nt l H H') (h1 : ra ∉ l) (h2 : ∀ p ∈ rows, α p.1 ∉ l) : LRowsAt K H' ra α rows :=
  ⟨s.oth _ _ h1 rfl h.dict, fun p hp => let ⟨xs, a, b⟩ := h.row p hp; ⟨xs, s.oth _ _ (h2 p hp) rfl a, evs_step s b⟩⟩
theorem WorldAt.lrows {K : PySem.W.Frag} {H : Hp} {A : WA} {α : Str → Addr} {ns : List Str} {n : Nat} {S : WS} (h : WorldAt K H A α ns n S) (hn : S.rows.map (·.1) = ns) (hd : ns.Nodup) : LRowsAt K H A.ra α S.rows := by
  refine ⟨?_, fun p hp => ?_⟩
  · have e := h.rw
    rw [← hn, List.map_map] at e
    exact e
  · obtain ⟨xs, h1, h2⟩ := h.row p.1 (by rw [← hn]; exact List.mem_map_of_mem hp)
    rw [rowOf, lookup_of (by rw [hn]; exact hd) hp] at h2
    exact ⟨xs, h1, h2⟩
/-! ### the world at its beginning -/
theorem WG.start {ns live un : List Str} (hs : ∀ t ∈ ns, t ∈ thrNames) (hd : ns.Nodup) (hl : 1 ≤ ns.length ∧ ns.length ≤ 5) (hp : (live ++ [] ++ un).Nodup) (hb : ∀ t ∈ live ++ [] ++ un, t ∈ ns) : WG ns (ns.map fun t => (t, [])) live [] un (fun _ _ => none) := by
  have lk : ∀ t es, (ns.map fun t => (t, ([] : List Ev))).lookup t = some es → es = [] := fun t es h => by
    have := lookup_pair h
    obtain ⟨u, _, e⟩ := List.mem_map.mp this
    cases e
    rfl
  have fl : ((ns.map fun t => (t, ([] : List Ev))).map (·.2)).flatten = [] := by
    rw [List.map_map]
    induction ns with
    | nil => rfl
    | cons a r ih => simp
  have no : ∀ (t : Str) (es : List Ev), (ns.map fun t => (t, ([] : List Ev))).lookup t = some es → ∀ (i : Nat) (e : Ev), es[i]? = some e → False := fun t es h i e hi => by
    rw [lk t es h] at hi
    simp at hi
  refine ⟨by rw [List.map_map]; exact List.map_id _, hs, hd, hl, hp, hb, fun t es h i e hi => (no t es h i e hi).elim, fun t es h i e hi => (no t es h i e hi).elim, fun t es h i e hi => (no t es h i e hi).elim, fun t es h i e hi => (no t es h i e hi).elim, fun t es h i e hi => (no t es h i e hi).elim, (fun t ht => nomatch ht), (by rw [fl]; exact List.nodup_nil), (fun x _ => by rw [fl]; simp), fun t ht => ?_⟩
  have e : rowOf (ns.map fun t => (t, ([] : List Ev))) t = [] := by
    unfold rowOf
    cases q : (ns.map fun t => (t, ([] : List Ev))).lookup t with
    | none => rfl
    | some es => exact lk t es q
  rw [e]
  exact ⟨fun _ _ => none, rfl, fun i e h => by simp at h, rfl⟩
/-! ### new objects, listed -/
structure Has (H0 H : Hp) (Fs : List (Addr × HO)) : Prop where
  nd : (Fs.map (·.1)).Nodup
  ok : ∀ q ∈ Fs, H q.1 = some q.2 ∧ H0 q.1 = none ∧ tblO q.2 = false
theorem Has.nil (H0 H : Hp) : Has H0 H [] := ⟨List.nodup_nil, fun q hq => nomatch hq⟩
theorem Has.step {H0 H H' : Hp} {Fs : List (Addr × HO)} {l : List Addr} (h : Has H0 H Fs) (s : Step l H H') (hl : ∀ b ∈ l, H0 b ≠ none) : Has H0 H' Fs := ⟨h.nd, fun q hq => let ⟨a, b, c⟩ := h.ok q hq; ⟨s.oth _ _ (fun z => hl _ z b) c a, b, c⟩⟩
theorem Has.same {H0 H H' : Hp} {Fs : List (Addr × HO)} (h : Has H0 H Fs) (s : Same H H') : Has H0 H' Fs := h.step (l := []) (.of s) (by simp)
theorem Has.new {H0 H : Hp} {Fs : List (Addr × HO)} {p : Addr} {o : HO} (h : Has H0 H Fs) (h0 : H0 p = none) (hp : H p = none) (ho : tblO o = false) : Has H0 (upd H p o) ((p, o) :: Fs) := by
  refine ⟨List.nodup_cons.mpr ⟨fun z => ?_, h.nd⟩, fun q hq => ?_⟩
  · obtain ⟨q, hq, e⟩ := List.mem_map.mp z
    have e : q.1 = p := e
    have := (h.ok q hq).1
    rw [e, hp] at this
    cases this
  · rcases List.mem_cons.mp hq with rfl | hq
    · exact ⟨upd_same, h0, ho⟩
    · obtain ⟨a, b, c⟩ := h.ok q hq
      exact ⟨by rw [upd_ne (ne_of_none a hp)]; exact a, b, c⟩
theorem Has.set {H0 H : Hp} {Fs : List (Addr × HO)} {p : Addr} {o o' : HO} (h : Has H0 H ((p, o) :: Fs)) (ho : tblO o' = false) : Has H0 (upd H p o') ((p, o') :: Fs) := by
  obtain ⟨n1, n2⟩ := List.nodup_cons.mp (show (p :: Fs.map (·.1)).Nodup from h.nd)
  refine ⟨h.nd, fun q hq => ?_⟩
  rcases List.mem_cons.mp hq with rfl | hq
  · exact ⟨upd_same, (h.ok _ List.mem_cons_self).2.1, ho⟩
  · obtain ⟨a, b, c⟩ := h.ok q (List.mem_cons_of_mem _ hq)
    refine ⟨?_, b, c⟩
    rw [upd_ne (fun z => n1 (by rw [← z]; exact List.mem_map_of_mem hq))]
    exact a
theorem Has.perm {H0 H : Hp} {Fs Gs : List (Addr × HO)} (h : Has H0 H Fs) (p : Gs.Perm Fs) : Has H0 H Gs := ⟨(p.map _).nodup_iff.mpr h.nd, fun q hq => h.ok q (p.mem_iff.mp hq)⟩
theorem Has.app {H0 H : Hp} {Fs Gs : List (Addr × HO)} (h : Has H0 H Fs) (nd : (Gs.map (·.1)).Nodup) (hg : ∀ q ∈ Gs, H q.1 = some q.2 ∧ H0 q.1 = none ∧ tblO q.2 = false ∧ ∀ r ∈ Fs, r.1 ≠ q.1) : Has H0 H (Gs ++ Fs) := by
  refine ⟨?_, fun q hq => ?_⟩
  · rw [List.map_append]
    refine List.nodup_append.mpr ⟨nd, h.nd, fun a ha b hb e => ?_⟩
    obtain ⟨q, hq, rfl⟩ := List.mem_map.mp ha
    obtain ⟨r, hr, rfl⟩ := List.mem_map.mp hb
    exact (hg q hq).2.2.2 r hr e.symm
  · rcases List.mem_append.mp hq with hq | hq
    · obtain ⟨a, b, c, _⟩ := hg q hq
      exact ⟨a, b, c⟩
    · exact h.ok q hq
theorem Has.at {H0 H : Hp} {Fs : List (Addr × HO)} (h : Has H0 H Fs) {p : Addr} {o : HO} (hm : (p, o) ∈ Fs) : H p = some o := (h.ok _ hm).1
theorem Has.fr {H0 H : Hp} {Fs : List (Addr × HO)} (h : Has H0 H Fs) {p : Addr} {o : HO} (hm : (p, o) ∈ Fs) : H0 p = none := (h.ok _ hm).2.1
/-- addresses by name -/
theorem alpha_of {β : Type} [Inhabited β] : ∀ (prs : List (Str × β)), (prs.map (·.1)).Nodup → ∃ α : Str → β, ∀ r ∈ prs, α r.1 = r.2
  | [], _ => ⟨fun _ => default, fun r hr => nomatch hr⟩
  | p :: r, h => by
    obtain ⟨n1, n2⟩ := List.nodup_cons.mp (show (p.1 :: r.map (·.1)).Nodup from h)
    obtain ⟨α, hα⟩ := alpha_of r n2
    refine ⟨fun t => if t = p.1 then p.2 else α t, fun q hq => ?_⟩
    rcases List.mem_cons.mp hq with rfl | hq
    · show (if q.1 = q.1 then q.2 else α q.1) = q.2
      rw [if_pos rfl]
    · show (if q.1 = p.1 then p.2 else α q.1) = q.2
      rw [if_neg fun z => n1 (by rw [← z]; exact List.mem_map_of_mem hq)]
      exact hα q hq
/-- a heap that grows from H on, the well at a -/
structure Bld (a : Addr) (H Hc : Hp) (Fs : List (Addr × HO)) : Prop where
  st : Step [a] H Hc
  we : WellAt Hc a
  has : Has H Hc Fs
  ha : H a ≠ none
theorem Bld.start {a : Addr} {H : Hp} (h : WellAt H a) : Bld a H H [] := ⟨.refl _ _, h, .nil _ _, by obtain ⟨x, y, z⟩ := h; rw [z]; simp⟩
theorem Bld.ne {a : Addr} {H Hc : Hp} {Fs : List (Addr × HO)} (b : Bld a H Hc Fs) {p : Addr} (hp : Hc p = none) : p ≠ a := fun z => by
  obtain ⟨x, y, q⟩ := b.we
  rw [z, q] at hp
  cases hp
theorem Bld.free {a : Addr} {H Hc : Hp} {Fs : List (Addr × HO)} (b : Bld a H Hc Fs) {p : Addr} (hp : Hc p = none) : H p = none := step_free b.st (by simpa using b.ne hp) hp
theorem Bld.same {a : Addr} {H Hc H' : Hp} {Fs : List (Addr × HO)} (b : Bld a H Hc Fs) (s : Same Hc H') : Bld a H H' Fs := ⟨b.st.trans (.of s), b.we.same s, b.has.same s, b.ha⟩
theorem Bld.step {a : Addr} {H Hc H' : Hp} {Fs : List (Addr × HO)} (b : Bld a H Hc Fs) (s : Step [a] Hc H') (w : WellAt H' a) : Bld a H H' Fs := ⟨b.st.trans s, w, b.has.step s (by simpa using b.ha), b.ha⟩
theorem Bld.draw {a : Addr} {H Hc : Hp} {Fs : List (Addr × HO)} (b : Bld a H Hc Fs) (n k : Int) : Bld a H (upd Hc a (.lst [.int n, .int k])) Fs := let ⟨s, w⟩ := step_well b.we n k; b.step s w
theorem Bld.new {a : Addr} {H Hc : Hp} {Fs : List (Addr × HO)} {p : Addr} (b : Bld a H Hc Fs) (o : HO) (hp : Hc p = none) (ho : tblO o = false := by rfl) : Bld a H (upd Hc p o) ((p, o) :: Fs) :=
  ⟨b.st.trans (.of (same_new hp)), b.we.same (same_new hp), b.has.new (b.free hp) hp ho, b.ha⟩
theorem Bld.at {a : Addr} {H Hc : Hp} {Fs : List (Addr × HO)} (b : Bld a H Hc Fs) {p : Addr} {o : HO} (hm : (p, o) ∈ Fs) : Hc p = some o := b.has.at hm
theorem Bld.fr {a : Addr} {H Hc : Hp} {Fs : List (Addr × HO)} (b : Bld a H Hc Fs) {p : Addr} {o : HO} (hm : (p, o) ∈ Fs) : H p = none := b.has.fr hm
theorem Bld.nea {a : Addr} {H Hc : Hp} {Fs : List (Addr × HO)} (b : Bld a H Hc Fs) {p : Addr} {o : HO} (hm : (p, o) ∈ Fs) : p ≠ a := fun z => b.ha (z ▸ b.fr hm)
theorem Bld.set {a : Addr} {H Hc : Hp} {Fs : List (Addr × HO)} {p : Addr} {o : HO} (b : Bld a H Hc ((p, o) :: Fs)) (o' : HO) (h1 : tupO o = false := by rfl) (h2 : tblO o = false := by rfl) (ho : tblO o' = false := by rfl) : Bld a H (upd Hc p o') ((p, o') :: Fs) := by
  refine ⟨b.st.then (StepB.put (b.at List.mem_cons_self) h1 h2) (by simp [b.fr List.mem_cons_self]), ?_, b.has.set ho, b.ha⟩
  obtain ⟨x, y, q⟩ := b.we
  exact ⟨x, y, by rw [upd_ne (b.nea List.mem_cons_self).symm]; exact q⟩
theorem Bld.perm {a : Addr} {H Hc : Hp} {Fs Gs : List (Addr × HO)} (b : Bld a H Hc Fs) (p : Gs.Perm Fs) : Bld a H Hc Gs := ⟨b.st, b.we, b.has.perm p, b.ha⟩
theorem Bld.app {a : Addr} {H Hc H' : Hp} {Fs Gs : List (Addr × HO)} (b : Bld a H Hc Fs) (s : Same Hc H') (nd : (Gs.map (·.1)).Nodup) (hg : ∀ q ∈ Gs, H' q.1 = some q.2 ∧ Hc q.1 = none ∧ tblO q.2 = false) : Bld a H H' (Gs ++ Fs) := by
  refine ⟨b.st.trans (.of s), b.we.same s, (b.has.same s).app nd fun q hq => ?_, b.ha⟩
  obtain ⟨h1, h2, h3⟩ := hg q hq
  exact ⟨h1, b.free h2, h3, fun r hr => (ne_none (b.has.ok r hr).1 h2).symm⟩
theorem Bld.mem {a : Addr} {H Hc : Hp} {Fs Gs : List (Addr × HO)} (b : Bld a H Hc Fs) (nd : (Gs.map (·.1)).Nodup) (h : ∀ q ∈ Gs, q ∈ Fs) : Bld a H Hc Gs := ⟨b.st, b.we, ⟨nd, fun q hq => b.has.ok q (h q hq)⟩, b.ha⟩
/-- a key more -/
theorem put_end {kvs : List (Key × V)} {k : Key} (v : V) (h : k ∉ kvs.map (·.1)) : putK kvs k v = kvs ++ [(k, v)] := putK_new v (by
  cases q : valV kvs k with
  | none => rfl
  | some u => exact absurd (valV_in q) h)
/-! ### names that are used -/
theorem in_oV (x : Str) : ∀ l : List Ev, inV (.str x) (l.map fun e => oV e.o) = decide (∃ e ∈ l, e.o = some x)
  | [] => by simp [inV]
  | e :: l => by
    have ih := in_oV x l
    have h1 : inV (.str x) (oV e.o :: l.map fun e => oV e.o) = (decide (e.o = some x) || inV (.str x) (l.map fun e => oV e.o)) := by
      cases h : e.o with
      | none => simp [inV, eqV, oV]
      | some y =>
        by_cases q : y = x
        · subst q
          simp [inV, eqV, oV]
        · have q2 : ¬ x = y := fun z => q z.symm
          simp [inV, eqV, oV, q]
    rw [List.map_cons, h1, ih]
    by_cases h : e.o = some x
    · simp [h]
    · simp [h]
theorem oV_flat : ∀ l : List Ev, (l.map fun e => oV e.o).all flatV = true
  | [] => rfl
  | e :: l => by
    rw [List.map_cons, List.all_cons, oV_flat l, Bool.and_true]
    cases e.o <;> rfl
theorem flat_in {rows : Rows} {e : Ev} (h : e ∈ (rows.map (·.2)).flatten) : ∃ p ∈ rows, e ∈ p.2 := by
  obtain ⟨l, hl, he⟩ := List.mem_flatten.mp h
  obtain ⟨p, hp, rfl⟩ := List.mem_map.mp hl
  exact ⟨p, hp, he⟩
end Lg

namespace Lg
open PySem L2 TL
section
variable {P : Program} {w : World} {K : PySem.W.Frag} {mg : Str → Option Value} {base : Heap} {f : Addr} {fd : FuncData}
abbrev s_law_record : Stmt := top 35
theorem sc_law_record : FnScope ["_law_well_here", "_law_many", "_law_size", "_law_words_here", "_law_names", "_law_unborn", "_law_world", "_law_first", "_law_k", "_law_thread", "_law_event_here", "_law_used", "_law_begin", "_law_name", "_law_cell"] ["_law_well_here", "_law_many", "_law_size", "_law_words_here"] (defScope s_law_record) := ⟨rfl, rfl, rfl, by decide +kernel, rfl, by decide +kernel, by decide +kernel⟩
def spRec (K : PySem.W.Frag) : Sp := fun vs H Q _ => ∃ (a wl : Addr) (m sz : Int) (ws : List Str), vs = [.ref a, .int m, .int sz, .ref wl] ∧ WellAt H a ∧ SqL K H wl (ws.map V.str) ∧ wl ≠ a ∧ 0 < ws.length ∧ ws.length ≤ 100 ∧ (∀ x ∈ ws, x ∈ drawWords) ∧ 1 ≤ m ∧ m ≤ 5 ∧ 0 ≤ sz ∧ sz ≤ 30 ∧
  ∀ (H' : Hp) (tp ra be ru : Addr) (rows : Rows) (α : Str → Addr) (ks : List Str) (mm : Str → Int) (run : List Str), Step [a] H H' → WellAt H' a → H' tp = some (.tup [.ref ra, .ref be, .ref ru]) → LRowsAt K H' ra α rows → Good rows κ0 → (rows.map (·.2)).flatten.length ≤ 30 → (∀ t ∈ rows.map (·.1), t ∈ thrNames) → H ra = none → (∀ p ∈ rows, H (α p.1) = none) →
    H be = none → be ≠ ra → H' be = some (.dK (tbl ks mm)) → ks.Nodup → ks.length ≤ 5 → (∀ x ∈ ks, objOf rows x ∧ (κ0 x = .cell ∨ κ0 x = .counter) ∧ 0 ≤ mm x) → H' ru = some (.lst (run.map V.str)) → Q (.ref tp) H'
theorem ok_law_record (F : Fun K "_law_record" "_law_record" s_law_record f fd) (T : Gb K mg) (cDraw : C0 P w K mg base 1 "_law_draw" ["_law_well_here", "_law_many"] spDraw) (cOne : C0 P w K mg base 2 "_law_one" ["_law_well_here", "_law_some"] (spOne K))
    (cEv : C0 P w K mg base 3 "_law_event" ["_law_well_here", "_law_world", "_law_thread", "_law_words_here"] (spLE K)) (cHap : C0 P w K mg base 1 "_law_happen" ["_law_world", "_law_thread", "_law_event_here"] (spLH K)) (cAll : C0 P w K mg base 1 "_law_all" ["_law_rows"] (spAll K)) :
    FnOk P w K mg base CX0 4 f fd ["_law_well_here", "_law_many", "_law_size", "_law_words_here"] (spRec K) := by
  obtain ⟨_, _, cDraw⟩ := cDraw
  obtain ⟨_, _, cOne⟩ := cOne
  obtain ⟨_, _, cEv⟩ := cEv
  obtain ⟨_, _, cHap⟩ := cHap
  obtain ⟨_, _, cAll⟩ := cAll
  refine F.ok sc_law_record (fun vs H Q E h => ?_) (fun cdv A outer s H vs Q E hr h => ?_)
  · obtain ⟨a, wl, m, sz, ws, rfl, _⟩ := h
    rfl
  · obtain ⟨a, wl, m, sz, ws, rfl, hw, hwl, hwa, hl0, hl1, hws, hm1, hm5, hs0, hs1, k⟩ := h
    have hu := hu_of hr
    refine ⟨_, pss_cons (ps_set (i := 4) sc_law_record.nd rfl (Or.inl rfl) (pe_slice sl_list (pe_lst (pa_cons pe_str (pa_cons pe_str (pa_cons pe_str (pa_cons pe_str (pa_cons pe_str pa_nil)))))) po_none (po_some (pv 1))))
    (pss_cons (ps_set (i := 5) sc_law_record.nd rfl (Or.inr rfl) (pe_ifExp (PW.pt (pw_and (pt_cmpR op_in_seq pe_str (pv 3) rfl) (pw_and1 (pt_cmpR op_gt (pv 1) pe_int (nomark _))))) (pe_slice sl_list (pv 4) (po_some (pe_op op_sub (pv 1) pe_int)) po_none) (pe_lst pa_nil)))
    (pss_cons (ps_set (i := 6) sc_law_record.nd rfl (Or.inl rfl) (pe_disp (pps_cons pe_str (pe_callTy (call_dictP rfl) (by rfl) T.m_dict (by decide +kernel) (pa_cons (pe_lc (own := [("_law_name", 13)]) rfl sc_law_record.nd (pi_list (pv 4)) (blkOk_by (own := [("_law_name", 13)]) (N := ["_law_well_here", "_law_many", "_law_size", "_law_words_here", "_law_names", "_law_unborn", "_law_world", "_law_first", "_law_k", "_law_thread", "_law_event_here", "_law_used", "_law_begin", "_law_name", "_law_cell"]) (sc := defScope s_law_record) (by decide +kernel)) (fun _ _ _ _ _ => (pg_name (i := 13) sc_law_record.nd rfl (Or.inl rfl))) (fun _ _ _ _ _ => pts_nil) (fun _ _ _ _ _ => (pe_tup (pa_cons (pv 13) (pa_cons (pe_lst pa_nil) pa_nil))))) pa_nil)) (pps_cons pe_str (pe_lst pa_nil) (pps_cons pe_str pe_dnewT (pps_cons pe_str (pe_lst pa_nil) pps_nil)))) (by rfl) (by rfl) (fun z => by cases z) (by decide)))
    (pss_cons (ps_dput hu (pv 6) pe_str (pe_callTy call_list_of (by rfl) T.m_list (by decide +kernel) (pa_cons (pv 5) pa_nil)) rfl)
    (pss_cons (ps_dput hu (pv 6) pe_str (pe_lc (own := [("_law_name", 13)]) rfl sc_law_record.nd (pi_list (pv 4)) (blkOk_by (own := [("_law_name", 13)]) (N := ["_law_well_here", "_law_many", "_law_size", "_law_words_here", "_law_names", "_law_unborn", "_law_world", "_law_first", "_law_k", "_law_thread", "_law_event_here", "_law_used", "_law_begin", "_law_name", "_law_cell"]) (sc := defScope s_law_record) (by decide +kernel)) (fun _ _ _ _ _ => (pg_name (i := 13) sc_law_record.nd rfl (Or.inl rfl))) (fun _ _ _ _ _ => (pts_one (pt_cmpR (Kx.ninK (K := K)) (pv 13) (pv 5) rfl))) (fun _ _ _ _ _ => (pv 13))) rfl)
    (pss_cons (ps_dput hu (pv 6) pe_str (pe_slice sl_list (pe_lst (pa_cons pe_str (pa_cons pe_str (pa_cons pe_str pa_nil)))) po_none (po_some (pe_op op_add pe_int (pe_call cDraw.ok (hr.mono (by decide)) (by rfl) cDraw.mg cDraw.kp cDraw.bd .nil pass0 (pa_cons (pv 0) (pa_cons pe_int pa_nil)))))) rfl)
    (pss_cons (ps_dput hu (pv 6) pe_str (pe_callTy (call_dictP rfl) (by rfl) T.m_dict (by decide +kernel) (pa_cons (pe_lc (own := [("_law_cell", 14)]) rfl sc_law_record.nd (pi_list (pe_dget hu (pv 6) pe_str (fun _ _ => rfl))) (blkOk_by (own := [("_law_cell", 14)]) (N := ["_law_well_here", "_law_many", "_law_size", "_law_words_here", "_law_names", "_law_unborn", "_law_world", "_law_first", "_law_k", "_law_thread", "_law_event_here", "_law_used", "_law_begin", "_law_name", "_law_cell"]) (sc := defScope s_law_record) (by decide +kernel)) (fun _ _ _ _ _ => (pg_name (i := 14) sc_law_record.nd rfl (Or.inl rfl))) (fun _ _ _ _ _ => pts_nil) (fun _ _ _ _ _ => (pe_tup (pa_cons (pv 14) (pa_cons (pe_call cDraw.ok (hr.mono (by decide)) (by rfl) cDraw.mg cDraw.kp cDraw.bd .nil pass0 (pa_cons (pv 0) (pa_cons pe_int pa_nil))) pa_nil))))) pa_nil)) rfl)
    (pss_cons (ps_dput hu (pv 6) pe_str (pe_disp (pps_cons pe_str (pe_call cDraw.ok (hr.mono (by decide)) (by rfl) cDraw.mg cDraw.kp cDraw.bd .nil pass0 (pa_cons (pv 0) (pa_cons pe_int pa_nil))) (pps_cons pe_str pe_int pps_nil)) (by rfl) (by rfl) (fun z => by cases z) (by decide)) rfl)
    (pss_cons (ps_set (i := 7) sc_law_record.nd rfl (Or.inr rfl) (pe_callTy (call_dictP rfl) (by rfl) T.m_dict (by decide +kernel) (pa_cons (pe_op op_cat (LiI.pe_listItems rfl (pe_dget hu (pv 6) pe_str (fun _ _ => rfl)) (by rfl) T.m_list (by decide +kernel)) (LiI.pe_listItems rfl (pe_dget hu (pv 6) pe_str (fun _ _ => rfl)) (by rfl) T.m_list (by decide +kernel))) pa_nil)))
    (pss_cons (ps_for PassesOwn.never rfl (pi_range1 (by rfl) T.m_range (pa_cons (pv 2) pa_nil)) (pg_name (i := 8) sc_law_record.nd rfl (Or.inl rfl))
      (pss_one (ps_if (pt_cmpR (op_neD hr.units) (pe_dget hu (pv 6) pe_str (fun _ _ => rfl)) (pe_lst pa_nil) (nomark _)) (pss_cons (ps_set (i := 9) sc_law_record.nd rfl (Or.inl rfl) (pe_call cOne.ok (hr.mono (by decide)) (by rfl) cOne.mg cOne.kp cOne.bd .nil pass0 (pa_cons (pv 0) (pa_cons (pe_dget hu (pv 6) pe_str (fun _ _ => rfl)) pa_nil))))
    (pss_cons (ps_set (i := 10) sc_law_record.nd rfl (Or.inl rfl) (pe_call cEv.ok (hr.mono (by decide)) (by rfl) cEv.mg cEv.kp cEv.bd .nil pass0 (pa_cons (pv 0) (pa_cons (pv 6) (pa_cons (pv 9) (pa_cons (pv 3) pa_nil))))))
    (pss_one (ps_if (pt_cmpR op_notN (pv 10) pe_non (nomark _)) (pss_one (ps_expr (pe_call cHap.ok (hr.mono (by decide)) (by rfl) cHap.mg cHap.kp cHap.bd .nil pass0 (pa_cons (pv 6) (pa_cons (pv 9) (pa_cons (pv 10) pa_nil)))))) (pss_nil))))) (pss_nil))))
    (pss_cons (ps_set (i := 11) sc_law_record.nd rfl (Or.inr rfl) (pe_lc (own := [("_law_event_here", 10)]) rfl sc_law_record.nd (pi_list (pe_call cAll.ok (hr.mono (by decide)) (by rfl) cAll.mg cAll.kp cAll.bd .nil pass0 (pa_cons (pe_dget hu (pv 6) pe_str (fun _ _ => rfl)) pa_nil))) (blkOk_by (own := [("_law_event_here", 10)]) (N := ["_law_well_here", "_law_many", "_law_size", "_law_words_here", "_law_names", "_law_unborn", "_law_world", "_law_first", "_law_k", "_law_thread", "_law_event_here", "_law_used", "_law_begin", "_law_name", "_law_cell"]) (sc := defScope s_law_record) (by decide +kernel)) (fun _ _ _ _ _ => (pg_name (i := 10) sc_law_record.nd rfl (Or.inl rfl))) (fun _ _ _ _ _ => pts_nil) (fun _ _ _ _ _ => (pe_ix (Kx.ixtK (K := K)) (pv 10) pe_int (fun _ _ => rfl)))))
    (pss_cons (ps_set (i := 12) sc_law_record.nd rfl (Or.inl rfl) (pe_callTy (call_dictP rfl) (by rfl) T.m_dict (by decide +kernel) (pa_cons (pe_lock (pe_lc (own := [("_law_name", 13)]) rfl sc_law_record.nd (pi_keys (pv 7)) (blkOk_by (own := [("_law_name", 13)]) (N := ["_law_well_here", "_law_many", "_law_size", "_law_words_here", "_law_names", "_law_unborn", "_law_world", "_law_first", "_law_k", "_law_thread", "_law_event_here", "_law_used", "_law_begin", "_law_name", "_law_cell"]) (sc := defScope s_law_record) (by decide +kernel)) (fun _ _ _ _ _ => (pg_name (i := 13) sc_law_record.nd rfl (Or.inl rfl))) (fun _ _ _ _ _ => (pts_one (pt_cmpR (Kx.inK (K := K)) (pv 13) (pv 11) rfl))) (fun _ _ _ _ _ => (pe_tup (pa_cons (pv 13) (pa_cons (pe_dget hu (pv 7) (pv 13) (fun _ _ => rfl)) pa_nil)))))) pa_nil)))
    (pss_one (ps_ret (pe_tup (pa_cons (pe_dget hu (pv 6) pe_str (fun _ _ => rfl)) (pa_cons (pv 12) (pa_cons (pe_dget hu (pv 6) pe_str (fun _ _ => rfl)) pa_nil))))))))))))))))), ?_⟩
    have B := Bld.start hw
    -- names
    refine st_asg ?_
    refine ⟨by show 5 ≤ sizeLine; decide, fun p0 hp0 => ?_⟩
    have B := B.new (.lst [.str "a", .str "b", .str "c", .str "d", .str "e"]) hp0
    generalize upd H p0 (.lst [.str "a", .str "b", .str "c", .str "d", .str "e"]) = H0 at B ⊢
    have q0 : H0 p0 = some (.lst (thrNames.map V.str)) := B.at List.mem_cons_self
    refine ⟨_, rfl, m, rfl, p0, _, rfl, SqL.of q0, fun p1 hp1 => ?_⟩
    rw [cut_to (show 0 ≤ m by omega), ← List.map_take]
    obtain ⟨ns, hns⟩ : ∃ ns, ns = thrNames.take m.toNat := ⟨_, rfl⟩
    rw [← hns]
    have hnl : ns.length = m.toNat := by
      rw [hns, List.length_take]
      show min m.toNat 5 = m.toNat
      omega
    have hnd : ns.Nodup := by
      rw [hns]
      exact (List.take_sublist _ _).nodup (by decide +kernel)
    have hnt : ∀ t ∈ ns, t ∈ thrNames := fun t ht => by rw [hns] at ht; exact List.mem_of_mem_take ht
    clear hns
    have B := B.new (.lst (ns.map V.str)) hp1
    have B := B.mem (Gs := [(p1, .lst (ns.map V.str))]) (by simp) (by simp)
    generalize upd H0 p1 (.lst (ns.map V.str)) = H1 at B ⊢
    clear hp1 q0 hp0
    -- unborn
    refine st_asgJ (fun x H' => ∃ (p2 : Addr) (un : List Str), x = .ref p2 ∧ Bld a H H' [(p2, .lst (un.map V.str)), (p1, .lst (ns.map V.str))] ∧ un.Nodup ∧ ∀ t ∈ un, t ∈ ns) (fun R hR => ?_) ?_
    · have fin0 : tLst tNil [some (.ref a), some (.int m), some (.int sz), some (.ref wl), some (.ref p1), none, none, none, none, none, none, none, none, none, none] H1 R := by
        refine ⟨by show 0 ≤ sizeLine; decide, fun p2 hp2 => hR _ _ ⟨p2, [], rfl, B.new _ hp2, List.nodup_nil, by simp⟩⟩
      refine ⟨_, rfl, wl, _, rfl, .inl (sql_ne B.st (by simpa using hwa) hwl), rfl, all_flat _, _, rfl, ?_⟩
      refine ite2 (fun _ => ?_) (fun _ => iteF fin0)
      refine ⟨_, rfl, _, _, rfl, rfl, _, rfl, ?_⟩
      refine ite2 (fun _ => ?_) (fun _ => fin0)
      refine ⟨_, rfl, _, rfl, _, _, rfl, rfl, m - 1, rfl, p1, _, rfl, SqL.of (B.at List.mem_cons_self), fun p2 hp2 => ?_⟩
      rw [cut_from (show 0 ≤ m - 1 by omega), ← List.map_drop]
      exact hR _ _ ⟨p2, ns.drop (m - 1).toNat, rfl, B.new _ hp2, (List.drop_sublist _ _).nodup hnd, fun t ht => List.mem_of_mem_drop ht⟩
    clear B
    rintro x H2 ⟨p2, un, rfl, B, hun1, hun2⟩
    dsimp only
    -- the world
    refine st_asg ?_
    refine fun wa hwa' => ?_
    have B := B.new (.dK []) hwa'
    generalize upd H2 wa (.dK []) = H3 at B ⊢
    have q1 := B.at (show (p1, HO.lst (ns.map V.str)) ∈ _ by simp)
    refine ⟨_, rfl, p1, rfl, ⟨_, SqL.of q1⟩, fun D hD => ?_⟩
    refine lc_it (walk_list (K := K) (a := p1) (xs := ns.map V.str)) (AccP H3 D fun i acc H' => ∃ prs : List (Addr × Str × Addr), acc = prs.map (fun r => V.ref r.1) ∧ prs.map (fun r => r.2.1) = ns.take i ∧ (∀ r ∈ prs, H' r.1 = some (.tup [.str r.2.1, .ref r.2.2]) ∧ H' r.2.2 = some (.lst []) ∧ H3 r.2.2 = none ∧ r.2.2 ≠ D) ∧ (prs.map (fun r => r.2.2)).Nodup)
      (acc0 hD ⟨[], rfl, rfl, (fun r hr => nomatch hr), List.nodup_nil⟩) (fun i H' _ q => SqL.of (q.1 _ _ q1)) ?_ ?_
    · rintro i y H4 H5 hi ⟨s4, acc, hD4, prs, rfl, e1, e2, e3⟩ ⟨rfl, hx⟩
      have hi' : i < ns.length := by rwa [List.length_map] at hi
      rw [List.getElem?_map] at hx
      obtain ⟨t, hti, rfl⟩ := Option.map_eq_some_iff.mp hx
      refine ⟨rfl, yes_then ?_⟩
      refine ⟨_, rfl, by show 0 ≤ sizeLine; decide, fun l hl => ⟨by show 2 ≤ sizeLine; decide, fun q hq => ?_⟩⟩
      have s6 : Same H5 (upd (upd H5 l (.lst [])) q (.tup [.str t, .ref l])) := (same_new hl).trans (same_new hq)
      have l6 : (upd (upd H5 l (.lst [])) q (.tup [.str t, .ref l])) l = some (.lst []) := (same_new hq) _ _ upd_same
      have q6 : (upd (upd H5 l (.lst [])) q (.tup [.str t, .ref l])) q = some (.tup [.str t, .ref l]) := upd_same
      generalize upd (upd H5 l (.lst [])) q (.tup [.str t, .ref l]) = H6 at s6 l6 q6 ⊢
      have e4 : prs.length ≤ 5 := by
        have := congrArg List.length e1
        rw [List.length_map, List.length_take] at this
        omega
      have nlD : l ≠ D := ne_none hD4 hl
      have st : Step [D] H6 (upd H6 D (.lst (prs.map (fun r => V.ref r.1) ++ [.ref q]))) := .put (s6 _ _ hD4) rfl
      refine acc_put hD (s4.trans s6) (s6 _ _ hD4) (by rw [List.length_map]; exact Nat.lt_of_le_of_lt (show prs.length ≤ 1000 by omega) (by decide)) ⟨prs ++ [(q, t, l)], by simp, ?_, fun r hr => ?_, ?_⟩
      · rw [List.map_append, e1, List.take_add_one, hti]
        rfl
      · rcases List.mem_append.mp hr with hr | hr
        · obtain ⟨a1, a2, a3, a4⟩ := e2 r hr
          exact ⟨st.tup _ _ rfl (s6 _ _ a1), st.oth _ _ (by simpa using a4) rfl (s6 _ _ a2), a3, a4⟩
        · rw [List.mem_singleton.mp hr]
          exact ⟨st.tup _ _ rfl q6, st.oth _ _ (by simpa using nlD) rfl l6, s4.free hl, nlD⟩
      · rw [List.map_append]
        refine List.nodup_append.mpr ⟨e3, by simp, fun x hx y hy e => ?_⟩
        obtain ⟨r, hr, rfl⟩ := List.mem_map.mp hx
        have hy : y = l := by simpa using hy
        have := (e2 r hr).2.1
        rw [e, hy, hl] at this
        cases this
    rintro H4 ⟨s4, acc, hD4, prs, rfl, e1, e2, e3⟩
    rw [List.length_map, List.take_of_length_le (Nat.le_refl _)] at e1
    obtain ⟨α, hα⟩ := alpha_of (prs.map (·.2)) (by rw [List.map_map]; show (prs.map fun r => r.2.1).Nodup; rw [e1]; exact hnd)
    have hα' : ∀ r ∈ prs, α r.2.1 = r.2.2 := fun r hr => hα r.2 (List.mem_map_of_mem hr)
    have eα : ns.map α = prs.map fun r => r.2.2 := by
      rw [← e1, List.map_map]
      exact List.map_congr_left hα'
    have ekv : (prs.map fun r => ((Sum.inr r.2.1 : Key), V.ref r.2.2)) = ns.map fun t => ((Sum.inr t : Key), V.ref (α t)) := by
      rw [← e1, List.map_map]
      refine List.map_congr_left fun r hr => ?_
      show (_, V.ref r.2.2) = (_, V.ref (α r.2.1))
      rw [hα' r hr]
    refine ⟨D, prs.map (·.1), prs.map fun r => (Sum.inr r.2.1, V.ref r.2.2), rfl, SqL.of (by rw [hD4, List.map_map]; rfl), ?_, fun ra hra => ?_⟩
    · clear e1 e3 hα eα ekv hα' hD4
      induction prs with
      | nil => exact .nil
      | cons r rs ih => exact .cons (SqT.of (e2 r List.mem_cons_self).1) (ih fun x hx => e2 x (List.mem_cons_of_mem _ hx))
    rw [mergeK_nd (by rw [List.map_map]; show (prs.map fun r => (Sum.inr r.2.1 : Key)).Nodup; rw [show (prs.map fun r => (Sum.inr r.2.1 : Key)) = ns.map Sum.inr by rw [← e1, List.map_map]; rfl]; exact inr_nd hnd), ekv]
    have B : Bld a H H4 ((ns.map fun t => (α t, HO.lst [])) ++ [(wa, .dK []), (p2, .lst (un.map V.str)), (p1, .lst (ns.map V.str))]) := by
      refine B.app s4 ?_ fun q hq => ?_
      · rw [List.map_map]
        show (ns.map α).Nodup
        rw [eα]
        exact e3
      · obtain ⟨t, ht, rfl⟩ := List.mem_map.mp hq
        rw [← e1] at ht
        obtain ⟨r, hr, rfl⟩ := List.mem_map.mp ht
        dsimp only
        rw [hα' r hr]
        exact ⟨(e2 r hr).2.1, (e2 r hr).2.2.1, rfl⟩
    clear e2 e3 hα hα' eα ekv e1 hD4 hD s4 q1
    generalize hrs : (ns.map fun t => (α t, HO.lst [])) = rs at B
    have B := B.perm (List.perm_append_comm (l₁ := [(wa, HO.dK []), (p2, .lst (un.map V.str)), (p1, .lst (ns.map V.str))]) (l₂ := rs))
    have B := B.new (.dK (ns.map fun t => ((Sum.inr t : Key), V.ref (α t)))) hra
    generalize upd H4 ra (.dK (ns.map fun t => ((Sum.inr t : Key), V.ref (α t)))) = H5 at B ⊢
    generalize hrd : HO.dK (ns.map fun t => ((Sum.inr t : Key), V.ref (α t))) = rd at B
    refine ⟨by show 0 ≤ sizeLine; decide, fun ru hru => ?_⟩
    have B := B.new (.lst []) hru
    generalize upd H5 ru (.lst []) = H6 at B ⊢
    refine fun lo hlo => ?_
    have B := B.new (.dT []) hlo
    generalize upd H6 lo (.dT []) = H7 at B ⊢
    refine ⟨by show 0 ≤ sizeLine; decide, fun en hen => ?_⟩
    have B := B.new (.lst []) hen
    generalize upd H7 en (.lst []) = H8 at B ⊢
    clear hen hlo hru hra hwa'
    have B : Bld a H H8 ((wa, .dK []) :: (en, .lst []) :: (lo, .dT []) :: (ru, .lst []) :: (ra, rd) :: (p2, .lst (un.map V.str)) :: (p1, .lst (ns.map V.str)) :: rs) := B.perm (List.perm_middle (a := (wa, HO.dK [])) (l₁ := [(en, HO.lst []), (lo, .dT []), (ru, .lst []), (ra, rd)])).symm
    refine ⟨B.at List.mem_cons_self, [(Sum.inr "rows", .ref ra), (Sum.inr "run", .ref ru), (Sum.inr "locks", .ref lo), (Sum.inr "ended", .ref en)], rfl, (by show 4 ≤ 15; decide), ?_⟩
    have em : mergeK [] [((Sum.inr "rows" : Key), V.ref ra), (Sum.inr "run", .ref ru), (Sum.inr "locks", .ref lo), (Sum.inr "ended", .ref en)] = [((Sum.inr "rows" : Key), V.ref ra), (Sum.inr "run", .ref ru), (Sum.inr "locks", .ref lo), (Sum.inr "ended", .ref en)] := rfl
    rw [em]
    generalize hk4 : [((Sum.inr "rows" : Key), V.ref ra), (Sum.inr "run", .ref ru), (Sum.inr "locks", .ref lo), (Sum.inr "ended", .ref en)] = k4
    have B := B.set (.dK k4)
    dsimp only
    generalize upd H8 wa (.dK k4) = H9 at B ⊢
    clear em
    -- unborn
    refine st_dput ?_
    have q2 := B.at (show (p2, HO.lst (un.map V.str)) ∈ _ by simp)
    have qw : H9 wa = some (.dK k4) := B.at List.mem_cons_self
    refine ⟨_, rfl, p2, _, rfl, .inl (SqL.of q2), fun pu hpu => ⟨_, rfl, wa, _, rfl, DPut.k (k := Sum.inr "unborn") (same_new hpu _ _ qw) (by rw [← hk4]; show 4 < sizeLine; decide), ?_⟩⟩
    have B := B.new (.lst (un.map V.str)) hpu
    generalize upd H9 pu (.lst (un.map V.str)) = H10 at B ⊢
    have B := (B.perm (List.Perm.swap _ _ _)).set (.dK (putK k4 (Sum.inr "unborn") (.ref pu)))
    generalize hk5 : putK k4 (Sum.inr "unborn") (.ref pu) = k5 at B ⊢
    generalize upd H10 wa (.dK k5) = H11 at B ⊢
    clear hpu
    -- live
    refine st_dput ?_
    have q1 := B.at (show (p1, HO.lst (ns.map V.str)) ∈ _ by simp)
    have q2 := B.at (show (p2, HO.lst (un.map V.str)) ∈ _ by simp)
    refine ⟨_, rfl, p1, rfl, ⟨_, SqL.of q1⟩, fun D hD => ?_⟩
    refine lc_it (walk_list (K := K) (a := p1) (xs := ns.map V.str)) (AccP H11 D fun i acc H' => acc = ((ns.take i).filter fun t => !decide (t ∈ un)).map V.str)
      (acc0 hD rfl) (fun i H' _ q => SqL.of (q.1 _ _ q1)) ?_ ?_
    · rintro i y H12 H13 hi ⟨s4, acc, hD4, rfl⟩ ⟨rfl, hx⟩
      have hi' : i < ns.length := by rwa [List.length_map] at hi
      rw [List.getElem?_map] at hx
      obtain ⟨t, hti, rfl⟩ := Option.map_eq_some_iff.mp hx
      refine ⟨rfl, ?_⟩
      refine ⟨_, rfl, _, rfl, p2, _, rfl, .inl (SqL.of (s4 _ _ q2)), rfl, all_flat _, _, rfl, ?_⟩
      rw [in_strs]
      have e5 : (ns.take (i + 1)).filter (fun t => !decide (t ∈ un)) = (ns.take i).filter (fun t => !decide (t ∈ un)) ++ (if (!decide (t ∈ un)) = true then [t] else []) := by
        rw [List.take_add_one, hti, List.filter_append, Option.toList_some, List.filter_cons, List.filter_nil]
      have e6 : ((ns.take i).filter fun t => !decide (t ∈ un)).length ≤ 5 := by
        refine Nat.le_trans (List.length_filter_le _ _) ?_
        rw [List.length_take]
        omega
      refine ite2 (fun c => ?_) (fun c => ?_)
      · refine ⟨_, rfl, acc_put hD s4 hD4 (by rw [List.length_map]; exact Nat.lt_of_le_of_lt (show _ ≤ 1000 by omega) (by decide)) ?_⟩
        show _ = ((ns.take (i + 1)).filter fun t => !decide (t ∈ un)).map V.str
        rw [e5, if_pos (show (!decide (t ∈ un)) = true from c), List.map_append]
        rfl
      · refine ⟨s4, _, hD4, ?_⟩
        show _ = ((ns.take (i + 1)).filter fun t => !decide (t ∈ un)).map V.str
        rw [e5, if_neg (show ¬ (!decide (t ∈ un)) = true from c), List.append_nil]
    rintro H12 ⟨s12, acc, hD12, rfl⟩
    rw [List.length_map, List.take_of_length_le (Nat.le_refl _)] at hD12
    obtain ⟨li, hli⟩ : ∃ li, li = ns.filter fun t => !decide (t ∈ un) := ⟨_, rfl⟩
    rw [← hli] at hD12
    have qw : H11 wa = some (.dK k5) := B.at List.mem_cons_self
    have l5 : k5.length = 5 := by rw [← hk5, ← hk4]; rfl
    refine ⟨_, rfl, wa, _, rfl, DPut.k (k := Sum.inr "live") (s12 _ _ qw) (by rw [l5]; decide), ?_⟩
    have B := B.app (Gs := [(D, HO.lst (li.map V.str))]) s12 (by simp) (fun q hq => by rw [List.mem_singleton.mp hq]; exact ⟨hD12, hD, rfl⟩)
    have B := (B.perm (List.Perm.swap _ _ _)).set (.dK (putK k5 (Sum.inr "live") (.ref D)))
    generalize hk6 : putK k5 (Sum.inr "live") (.ref D) = k6 at B ⊢
    generalize upd H12 wa (.dK k6) = H13 at B ⊢
    clear q1 q2 qw s12 hD12 hD
    -- cells
    refine st_dput ?_
    refine ⟨by show 3 ≤ sizeLine; decide, fun px hpx => ?_⟩
    have B := B.new (.lst [.str "x", .str "y", .str "z"]) hpx
    generalize upd H13 px (.lst [.str "x", .str "y", .str "z"]) = H14 at B ⊢
    refine ⟨_, rfl, a, 3, rfl, B.we, by decide, by decide, fun d n' k' d0 d1 => ?_⟩
    have B := B.draw n' k'
    generalize upd H14 a (.lst [.int n', .int k']) = H15 at B ⊢
    have qx : H15 px = some (.lst (cellNames.map V.str)) := B.at List.mem_cons_self
    refine ⟨_, _, rfl, rfl, 1 + d, rfl, px, _, rfl, SqL.of qx, fun pc hpc => ?_⟩
    rw [cut_to (show 0 ≤ 1 + d by omega), ← List.map_take]
    obtain ⟨cs, hcs⟩ : ∃ cs, cs = cellNames.take (1 + d).toNat := ⟨_, rfl⟩
    rw [← hcs]
    have hcl : cs.length = (1 + d).toNat := by
      rw [hcs, List.length_take]
      show min (1 + d).toNat 3 = (1 + d).toNat
      omega
    have hcnd : cs.Nodup := by
      rw [hcs]
      exact (List.take_sublist _ _).nodup (by decide +kernel)
    have hct : ∀ t ∈ cs, t ∈ cellNames := fun t ht => by rw [hcs] at ht; exact List.mem_of_mem_take ht
    clear hcs
    have B := B.new (.lst (cs.map V.str)) hpc
    generalize upd H15 pc (.lst (cs.map V.str)) = H16 at B ⊢
    have B := B.perm (Gs := (wa, .dK k6) :: (pc, .lst (cs.map V.str)) :: (px, .lst [.str "x", .str "y", .str "z"]) :: _) (List.perm_middle (l₁ := [(pc, HO.lst (cs.map V.str)), (px, .lst [.str "x", .str "y", .str "z"])])).symm
    have qw : H16 wa = some (.dK k6) := B.at List.mem_cons_self
    have l6 : k6.length = 6 := by rw [← hk6, ← hk5, ← hk4]; rfl
    refine ⟨_, rfl, wa, _, rfl, DPut.k (k := Sum.inr "cells") qw (by rw [l6]; decide), ?_⟩
    have B := B.set (.dK (putK k6 (Sum.inr "cells") (.ref pc)))
    generalize hk7 : putK k6 (Sum.inr "cells") (.ref pc) = k7 at B ⊢
    generalize upd H16 wa (.dK k7) = H17 at B ⊢
    clear qx qw hpc hpx
    -- memory
    refine st_dput ?_
    have qw : H17 wa = some (.dK k7) := B.at List.mem_cons_self
    have qc : H17 pc = some (.lst (cs.map V.str)) := B.at (by simp)
    have v7 : valV k7 (Sum.inr "cells") = some (.ref pc) := by rw [← hk7, valV_put, if_pos rfl]
    refine ⟨_, rfl, wa, _, rfl, by rw [← v7]; exact DGet.k (k := Sum.inr "cells") qw, pc, rfl, ⟨_, SqL.of qc⟩, fun D2 hD2 => ?_⟩
    have hna2 : D2 ≠ a := B.ne hD2
    refine lc_it (walk_list (K := K) (a := pc) (xs := cs.map V.str)) (AccS [a] H17 D2 fun i acc H' => WellAt H' a ∧ ∃ prs : List (Addr × Str × Int), acc = prs.map (fun r => V.ref r.1) ∧ prs.map (fun r => r.2.1) = cs.take i ∧ ∀ r ∈ prs, H' r.1 = some (.tup [.str r.2.1, .int r.2.2]) ∧ 0 ≤ r.2.2)
      (accS0 hD2 ⟨B.we.same (same_new hD2), [], rfl, rfl, fun r hr => nomatch hr⟩) (fun i H' _ q => SqL.of (q.1.oth _ _ (by simpa using B.nea (show (pc, HO.lst (cs.map V.str)) ∈ _ by simp)) rfl qc)) ?_ ?_
    · rintro i y H18 H19 hi ⟨s4, acc, hD4, hwi, prs, rfl, e1, e2⟩ ⟨rfl, hx⟩
      have hi' : i < cs.length := by rwa [List.length_map] at hi
      rw [List.getElem?_map] at hx
      obtain ⟨t, hti, rfl⟩ := Option.map_eq_some_iff.mp hx
      refine ⟨rfl, yes_then ?_⟩
      refine ⟨_, rfl, _, rfl, a, 2, rfl, hwi, by decide, by decide, fun d2 n2 k2 d20 d21 => ⟨by show 2 ≤ sizeLine; decide, fun q hq => ?_⟩⟩
      obtain ⟨st2, hw2⟩ := step_well hwi n2 k2
      generalize upd H19 a (.lst [.int n2, .int k2]) = H20 at st2 hw2 hq ⊢
      have s6 : Same H20 (upd H20 q (.tup [.str t, .int d2])) := same_new hq
      have q6 : (upd H20 q (.tup [.str t, .int d2])) q = some (.tup [.str t, .int d2]) := upd_same
      generalize upd H20 q (.tup [.str t, .int d2]) = H21 at s6 q6 ⊢
      have e4 : prs.length ≤ 5 := by
        have := congrArg List.length e1
        rw [List.length_map, List.length_take] at this
        omega
      have hD5 := s6 _ _ (st2.oth _ _ (by simpa using hna2) rfl hD4)
      have st : Step [D2] H21 (upd H21 D2 (.lst (prs.map (fun r => V.ref r.1) ++ [.ref q]))) := .put hD5 rfl
      refine accS_put hD2 ((s4.trans st2).trans (.of s6)) hD5 (by rw [List.length_map]; exact Nat.lt_of_le_of_lt (show prs.length ≤ 1000 by omega) (by decide)) ⟨?_, prs ++ [(q, t, d2)], by simp, ?_, fun r hr => ?_⟩
      · obtain ⟨x, y, z⟩ := hw2.same s6
        exact ⟨x, y, st.oth _ _ (by simpa using hna2.symm) rfl z⟩
      · rw [List.map_append, e1, List.take_add_one, hti]
        rfl
      · rcases List.mem_append.mp hr with hr | hr
        · obtain ⟨a1, a2⟩ := e2 r hr
          exact ⟨st.tup _ _ rfl (s6 _ _ (st2.tup _ _ rfl a1)), a2⟩
        · rw [List.mem_singleton.mp hr]
          exact ⟨st.tup _ _ rfl q6, d20⟩
    rintro H18 ⟨s4, acc, hD4, hwi, prs, rfl, e1, e2⟩
    rw [List.length_map, List.take_of_length_le (Nat.le_refl _)] at e1
    have B := B.step s4 hwi
    obtain ⟨mm, hmm⟩ := alpha_of (prs.map (·.2)) (by rw [List.map_map]; show (prs.map fun r => r.2.1).Nodup; rw [e1]; exact hcnd)
    have hmm' : ∀ r ∈ prs, mm r.2.1 = r.2.2 := fun r hr => hmm r.2 (List.mem_map_of_mem hr)
    have ekv : (prs.map fun r => ((Sum.inr r.2.1 : Key), V.int r.2.2)) = tbl cs mm := by
      unfold tbl
      rw [← e1, List.map_map]
      refine List.map_congr_left fun r hr => ?_
      show (_, V.int r.2.2) = (_, V.int (mm r.2.1))
      rw [hmm' r hr]
    have hm0 : ∀ c ∈ cs, 0 ≤ mm c := fun c hc => by
      rw [← e1] at hc
      obtain ⟨r, hr, rfl⟩ := List.mem_map.mp hc
      rw [hmm' r hr]
      exact (e2 r hr).2
    refine ⟨D2, prs.map (·.1), prs.map fun r => (Sum.inr r.2.1, V.int r.2.2), rfl, SqL.of (by rw [hD4, List.map_map]; rfl), ?_, fun pm hpm => ?_⟩
    · clear e1 ekv hmm hmm' hD4 hm0
      induction prs with
      | nil => exact .nil
      | cons r rs ih => exact .cons (SqT.of (e2 r List.mem_cons_self).1) (ih fun x hx => e2 x (List.mem_cons_of_mem _ hx))
    rw [ekv, mergeK_nd (tbl_nd hcnd)]
    clear e1 e2 hmm hmm' ekv hD4 hD2 hna2 s4
    have B := B.new (.dK (tbl cs mm)) hpm
    generalize upd H18 pm (.dK (tbl cs mm)) = H19 at B ⊢
    have B := B.perm (List.Perm.swap _ _ _)
    have qw : H19 wa = some (.dK k7) := B.at List.mem_cons_self
    have l7 : k7.length = 7 := by rw [← hk7, ← hk6, ← hk5, ← hk4]; rfl
    refine ⟨_, rfl, wa, _, rfl, DPut.k (k := Sum.inr "memory") qw (by rw [l7]; decide), ?_⟩
    have B := B.set (.dK (putK k7 (Sum.inr "memory") (.ref pm)))
    generalize hk8 : putK k7 (Sum.inr "memory") (.ref pm) = k8 at B ⊢
    generalize upd H19 wa (.dK k8) = H20 at B ⊢
    clear qw qc hpm
    -- counters
    refine st_dput ?_
    refine fun po hpo => ?_
    have B := B.new (.dK []) hpo
    generalize upd H20 po (.dK []) = H21 at B ⊢
    refine ⟨_, rfl, a, 2, rfl, B.we, by decide, by decide, fun c0 n' k' c00 c01 => ?_⟩
    have B := B.draw n' k'
    generalize upd H21 a (.lst [.int n', .int k']) = H22 at B ⊢
    refine ⟨B.at List.mem_cons_self, [(Sum.inr "s", .int c0), (Sum.inr "t", .int 0)], rfl, (by show 2 ≤ 15; decide), ?_⟩
    have em : mergeK [] [((Sum.inr "s" : Key), V.int c0), (Sum.inr "t", .int 0)] = [((Sum.inr "s" : Key), V.int c0), (Sum.inr "t", .int 0)] := rfl
    rw [em]
    have B := B.set (.dK [((Sum.inr "s" : Key), V.int c0), (Sum.inr "t", .int 0)])
    dsimp only
    generalize upd H22 po (.dK [((Sum.inr "s" : Key), V.int c0), (Sum.inr "t", .int 0)]) = H23 at B ⊢
    clear em hpo
    have B := B.perm (List.Perm.swap _ _ _)
    have qw : H23 wa = some (.dK k8) := B.at List.mem_cons_self
    have l8 : k8.length = 8 := by rw [← hk8, ← hk7, ← hk6, ← hk5, ← hk4]; rfl
    refine ⟨_, rfl, wa, _, rfl, DPut.k (k := Sum.inr "counters") qw (by rw [l8]; decide), ?_⟩
    have B := B.set (.dK (putK k8 (Sum.inr "counters") (.ref po)))
    have hk9 : putK k8 (Sum.inr "counters") (.ref po) = WA.kvs ⟨wa, ra, ru, lo, en, pu, D, pc, pm, po⟩ := by
      rw [← hk8, ← hk7, ← hk6, ← hk5, ← hk4]
      rfl
    rw [hk9] at B ⊢
    generalize upd H23 wa (.dK (WA.kvs ⟨wa, ra, ru, lo, en, pu, D, pc, pm, po⟩)) = H24 at B ⊢
    clear qw hk9 hk8 hk7 hk6 hk5 hk4 l5 l6 l7 l8 v7
    obtain ⟨A0, hA⟩ : ∃ A0 : WA, A0 = ⟨wa, ra, ru, lo, en, pu, D, pc, pm, po⟩ := ⟨_, rfl⟩
    rw [← hA] at B
    -- the first values
    refine st_asg ?_
    have qw : H24 wa = some (.dK A0.kvs) := B.at List.mem_cons_self
    have qm : H24 pm = some (.dK (tbl cs mm)) := B.at (by simp)
    have qo : H24 po = some (.dK [((Sum.inr "s" : Key), V.int c0), (Sum.inr "t", .int 0)]) := B.at (by simp)
    have g1 : valV A0.kvs (Sum.inr "memory") = some (.ref pm) := by rw [hA]; rfl
    have g2 : valV A0.kvs (Sum.inr "counters") = some (.ref po) := by rw [hA]; rfl
    refine ⟨_, rfl, wa, _, rfl, by rw [← g1]; exact DGet.k (k := Sum.inr "memory") qw, pm, _, rfl, qm, fun H25 l1 ts1 s25 hl1 hts1 hlt1 q25 pr1 => ?_⟩
    have s25 : Same H24 H25 := s25
    refine ⟨_, rfl, wa, _, rfl, by rw [← g2]; exact DGet.k (k := Sum.inr "counters") (s25 _ _ qw), po, _, rfl, s25 _ _ qo, fun H26 l2 ts2 s26 hl2 hts2 hlt2 q26 pr2 => ?_⟩
    have s26 : Same H25 H26 := s26
    have le1 : ts1.length = cs.length := by
      have := Paired.length pr1
      rw [this]
      unfold tbl
      rw [List.length_map]
    have le2 : ts2.length = 2 := Paired.length pr2
    refine ⟨l1, l2, _, _, rfl, rfl, s26 _ _ q25, q26, by rw [List.length_map, List.length_map]; exact Nat.le_trans (show _ ≤ 1000 by omega) (by decide), fun l3 hl3 => ?_⟩
    have s27 : Same H26 (upd H26 l3 (.lst (ts1.map V.ref ++ ts2.map V.ref))) := same_new hl3
    have q27 : (upd H26 l3 (.lst (ts1.map V.ref ++ ts2.map V.ref))) l3 = some (.lst ((ts1 ++ ts2).map V.ref)) := by rw [upd_same, List.map_append]
    generalize upd H26 l3 (.lst (ts1.map V.ref ++ ts2.map V.ref)) = H27 at s27 q27 ⊢
    have par : ∀ {xs : List Addr} {ys : List (Key × V)} {Ha Hb : Hp}, Same Ha Hb → Paired (fun (t : Addr) (q : Key × V) => Ha t = some (.tup [kV q.1, q.2])) xs ys → Paired (fun p kv => SqT K Hb p [kV kv.1, kv.2]) xs ys := fun s p => by
      induction p with
      | nil => exact .nil
      | cons h _ ih => exact .cons (SqT.of (s _ _ h)) ih
    refine ⟨l3, ts1 ++ ts2, tbl cs mm ++ [((Sum.inr "s" : Key), V.int c0), (Sum.inr "t", .int 0)], rfl, SqL.of q27, paired_app (par (s26.trans s27) pr1) (par s27 pr2), fun fi hfi => ?_⟩
    have hcst : ∀ c ∈ cs, c ≠ "s" ∧ c ≠ "t" := fun c hc => by
      have := hct c hc
      simp only [cellNames, List.mem_cons, List.mem_nil_iff, or_false] at this
      rcases this with rfl | rfl | rfl <;> exact ⟨by decide +kernel, by decide +kernel⟩
    obtain ⟨mn, hmn⟩ : ∃ mn : Str → Int, mn = fun (x : Str) => if x = ("s" : Str) then c0 else if x = ("t" : Str) then 0 else mm x := ⟨_, rfl⟩
    have etb : tbl cs mm ++ [((Sum.inr "s" : Key), V.int c0), (Sum.inr "t", .int 0)] = tbl (cs ++ cntNames) mn := by
      unfold tbl
      rw [List.map_append]
      congr 1
      · refine List.map_congr_left fun c hc => ?_
        rw [hmn]
        dsimp only
        rw [if_neg (hcst c hc).1, if_neg (hcst c hc).2]
      · rw [hmn]
        rfl
    have hknd : (cs ++ cntNames).Nodup := List.nodup_append.mpr ⟨hcnd, by decide +kernel, fun x hx y hy e => by
      subst e
      simp only [List.mem_cons, List.mem_nil_iff, or_false] at hy
      rcases hy with rfl | rfl
      · exact (hcst _ hx).1 rfl
      · exact (hcst _ hx).2 rfl⟩
    have hmn0 : ∀ x ∈ cs ++ cntNames, 0 ≤ mn x := fun x hx => by
      rw [hmn]
      dsimp only
      by_cases e1 : x = "s"
      · rw [if_pos e1]; exact c00
      · rw [if_neg e1]
        by_cases e2 : x = "t"
        · rw [if_pos e2]; decide
        · rw [if_neg e2]
          refine hm0 x ?_
          rcases List.mem_append.mp hx with h | h
          · exact h
          · simp only [List.mem_cons, List.mem_nil_iff, or_false] at h
            exact absurd h (by rintro (h | h); exact e1 h; exact e2 h)
    rw [etb, mergeK_nd (tbl_nd hknd)]
    have s2427 := (s25.trans s26).trans s27
    have B := (B.same s2427).new (.dK (tbl (cs ++ cntNames) mn)) hfi
    generalize upd H27 fi (.dK (tbl (cs ++ cntNames) mn)) = H28 at B ⊢
    clear etb par pr1 pr2 q25 q26 q27 hl1 hl2 hl3 hlt1 hlt2 hts1 hts2 le1 le2 s25 s26 s27 s2427 hfi g1 g2 qw qm qo hm0 hmn
    subst hA
    dsimp only
    have B : Bld a H H28 ([(fi, HO.dK (tbl (cs ++ cntNames) mn)), (wa, HO.dK (WA.kvs ⟨wa, ra, ru, lo, en, pu, D, pc, pm, po⟩)), (po, HO.dK [((Sum.inr "s" : Key), V.int c0), (Sum.inr "t", V.int 0)]), (pm, HO.dK (tbl cs mm)), (pc, HO.lst (cs.map V.str)), (px, HO.lst [V.str "x", V.str "y", V.str "z"]), (D, HO.lst (li.map V.str)), (pu, HO.lst (un.map V.str)), (en, HO.lst []), (lo, HO.dT []), (ru, HO.lst []), (ra, rd), (p2, HO.lst (un.map V.str)), (p1, HO.lst (ns.map V.str))] ++ rs) := B
    obtain ⟨A0, hA⟩ : ∃ A0 : WA, A0 = ⟨wa, ra, ru, lo, en, pu, D, pc, pm, po⟩ := ⟨_, rfl⟩
    have ers : rs.map (·.1) = ns.map α := by rw [← hrs, List.map_map]; rfl
    have ndL : (A0.own ++ ns.map α).Nodup ∧ fi ∉ A0.own ++ ns.map α := by
      have h0 := B.has.nd
      rw [List.map_append, ers] at h0
      have h1 : (fi :: ([wa, po, pm, pc, D, pu, en, lo, ru, ra] ++ ns.map α)).Nodup := List.Sublist.nodup (.cons₂ _ (.cons₂ _ (.cons₂ _ (.cons₂ _ (.cons₂ _ (.cons _ (.cons₂ _ (.cons₂ _ (.cons₂ _ (.cons₂ _ (.cons₂ _ (.cons₂ _ (.cons _ (.cons _ (List.Sublist.refl _))))))))))))))) h0
      have h2 : (A0.own ++ ns.map α).Perm ([wa, po, pm, pc, D, pu, en, lo, ru, ra] ++ ns.map α) := by
        rw [hA]
        exact ((List.reverse_perm [po, pm, pc, D, pu, en, lo, ru, ra]).append_right _).cons wa
      obtain ⟨n1, n2⟩ := List.nodup_cons.mp h1
      exact ⟨h2.nodup_iff.mpr n2, fun z => n1 (h2.mem_iff.mp z)⟩
    have frL : ∀ b ∈ A0.own ++ ns.map α, H b = none := fun b hb => by
      rcases List.mem_append.mp hb with h | h
      · rw [hA] at h
        simp only [WA.own, List.mem_cons, List.mem_nil_iff, or_false] at h
        rcases h with rfl | rfl | rfl | rfl | rfl | rfl | rfl | rfl | rfl | rfl
        · exact B.fr (o := _) (by simp; exact .inr (.inl rfl))
        · exact B.fr (o := rd) (by simp)
        · exact B.fr (o := .lst []) (by simp)
        · exact B.fr (o := .dT []) (by simp)
        · exact B.fr (o := .lst []) (by simp)
        · exact B.fr (o := .lst (un.map V.str)) (by simp)
        · exact B.fr (o := .lst (li.map V.str)) (by simp)
        · exact B.fr (o := .lst (cs.map V.str)) (by simp)
        · exact B.fr (o := .dK (tbl cs mm)) (by simp)
        · exact B.fr (o := .dK [((Sum.inr "s" : Key), V.int c0), (Sum.inr "t", V.int 0)]) (by simp)
      · rw [← ers] at h
        obtain ⟨q, hq, rfl⟩ := List.mem_map.mp h
        exact (B.has.ok q (List.mem_append_right _ hq)).2.1
    have hnL : a ∉ A0.own ++ ns.map α := fun z => B.ha (frL a z)
    obtain ⟨S0, hS⟩ : ∃ S0 : WS, S0 = ⟨ns.map fun t => (t, []), [], fun _ _ => none, [], un, li, cs⟩ := ⟨_, rfl⟩
    have W0 : WorldAt K H28 A0 α ns 10 S0 := by
      rw [hS, hA]
      refine ⟨B.at (by simp), ?_, fun t ht => ⟨[], ?_, ?_⟩, B.at (by simp), ⟨[], B.at (by simp), fun l t => rfl, (fun kv h => nomatch h), (fun l t w h => nomatch h), Nat.zero_le _⟩, B.at (by simp), B.at (by simp), B.at (by simp), B.at (by simp), ⟨tbl cs mm, B.at (by simp), fun c hc => ⟨mm c, tbl_get mm hc⟩, by unfold tbl; rw [List.length_map]; omega⟩, ⟨c0, 0, B.at (by simp)⟩, by rw [← hA]; exact ndL.1, Nat.zero_le _, ⟨?_, ?_, hct⟩⟩
      · show H28 ra = some (.dK (ns.map fun t => ((Sum.inr t : Key), V.ref (α t))))
        rw [hrd]
        exact B.at (by simp)
      · refine B.at (List.mem_append_right _ ?_)
        rw [← hrs]
        exact List.mem_map.mpr ⟨t, ht, rfl⟩
      · have e : rowOf (ns.map fun t => (t, ([] : List Ev))) t = [] := by
          unfold rowOf
          cases q : (ns.map fun t => (t, ([] : List Ev))).lookup t with
          | none => rfl
          | some es =>
            obtain ⟨u, _, e⟩ := List.mem_map.mp (lookup_pair q)
            cases e
            rfl
        show Paired _ [] (rowOf (ns.map fun t => (t, ([] : List Ev))) t)
        rw [e]
        exact .nil
      · show cs ≠ []
        intro z
        rw [z] at hcl
        simp at hcl
        omega
      · show cs.length ≤ 3
        omega
    have G0 : WG ns S0.rows S0.live S0.ended S0.unborn S0.lk := by
      rw [hS]
      refine WG.start hnt hnd ⟨by omega, by omega⟩ ?_ ?_
      · rw [List.append_nil, hli]
        refine List.nodup_append.mpr ⟨List.Nodup.sublist List.filter_sublist hnd, hun1, fun x hx y hy e => ?_⟩
        subst e
        have := (List.mem_filter.mp hx).2
        simp at this
        exact this hy
      · intro t ht
        rw [List.append_nil, hli] at ht
        rcases List.mem_append.mp ht with h | h
        · exact (List.mem_filter.mp h).1
        · exact hun2 t h
    have hfl0 : (S0.rows.map (·.2)).flatten.length ≤ 0 := by
      rw [hS]
      show ((ns.map fun t => (t, ([] : List Ev))).map (·.2)).flatten.length ≤ 0
      have : ((ns.map fun t => (t, ([] : List Ev))).map (·.2)).flatten = [] := by
        rw [List.map_map]
        clear hS W0 G0
        generalize ns = l
        induction l with
        | nil => rfl
        | cons a r ih => simp
      rw [this]
      exact Nat.le_refl _
    have hcs0 : S0.cells = cs := by rw [hS]
    have hfi : H28 fi = some (.dK (tbl (cs ++ cntNames) mn)) := B.at (by simp)
    have hfiH : H fi = none := B.fr (o := .dK (tbl (cs ++ cntNames) mn)) (by simp)
    have st0 : Step [a] H H28 := B.st
    have we0 : WellAt H28 a := B.we
    have hfia : fi ≠ a := B.nea (o := .dK (tbl (cs ++ cntNames) mn)) (by simp)
    have ewa : wa = A0.wa := by rw [hA]
    have era : ra = A0.ra := by rw [hA]
    have eru : ru = A0.ru := by rw [hA]
    have hrah : H ra = none := frL ra (by rw [hA]; simp [WA.own])
    clear B hS ers hrs hrd hcl hnl hli hA
    clear hun1 hun2 d0 d1 c00 c01
    subst ewa
    -- the loop
    refine ⟨_, rfl, sz, rfl, by omega, by omega, ?_⟩
    refine for_it (walk_range (lo := 0)) (fun i σ H' => (∃ w8 w9 w10 w11 w12 w13 w14 : Option V, σ = [some (.ref a), some (.int m), some (.int sz), some (.ref wl), some (.ref p1), some (.ref p2), some (.ref A0.wa), some (.ref fi), w8, w9, w10, w11, w12, w13, w14]) ∧
        ∃ (S : WS) (n : Nat), Step [a] H H' ∧ WellAt H' a ∧ WorldAt K H' A0 α ns n S ∧ n ≤ 10 + 10 * i ∧ WG ns S.rows S.live S.ended S.unborn S.lk ∧ (S.rows.map (·.2)).flatten.length ≤ i ∧ S.cells = cs ∧ H' fi = some (.dK (tbl (cs ++ cntNames) mn)))
      ⟨⟨_, _, _, _, _, _, _, rfl⟩, S0, 10, st0, we0, W0, by omega, G0, hfl0, hcs0, hfi⟩ (fun _ _ _ _ _ => trivial) ?_ ?_
    · rintro i y σ H29 H30 hi ⟨⟨w8, w9, w10, w11, w12, w13, w14, rfl⟩, S, n, st, we, W, hn, g, hfl, hcs, hfi⟩ ⟨rfl, rfl⟩
      have hi30 : i < 30 := by omega
      have hnext : ∀ (σ' : St), (∃ w8 w9 w10 w11 w12 w13 w14 : Option V, σ' = [some (.ref a), some (.int m), some (.int sz), some (.ref wl), some (.ref p1), some (.ref p2), some (.ref A0.wa), some (.ref fi), w8, w9, w10, w11, w12, w13, w14]) → ∀ H', Step [a] H H' → WellAt H' a → WorldAt K H' A0 α ns n S → H' fi = some (.dK (tbl (cs ++ cntNames) mn)) →
          (∃ w8 w9 w10 w11 w12 w13 w14 : Option V, σ' = [some (.ref a), some (.int m), some (.int sz), some (.ref wl), some (.ref p1), some (.ref p2), some (.ref A0.wa), some (.ref fi), w8, w9, w10, w11, w12, w13, w14]) ∧
          ∃ (S : WS) (n : Nat), Step [a] H H' ∧ WellAt H' a ∧ WorldAt K H' A0 α ns n S ∧ n ≤ 10 + 10 * (i + 1) ∧ WG ns S.rows S.live S.ended S.unborn S.lk ∧ (S.rows.map (·.2)).flatten.length ≤ i + 1 ∧ S.cells = cs ∧ H' fi = some (.dK (tbl (cs ++ cntNames) mn)) := fun σ' e H' h1 h2 h3 h4 => ⟨e, S, n, h1, h2, h3, by omega, g, by omega, hcs, h4⟩
      refine st_ifl ?_
      refine ⟨_, rfl, A0.wa, _, rfl, W.get (kv_live A0), by show 0 ≤ sizeLine; decide, fun q hq => ?_⟩
      have s9 : Same H30 (upd H30 q (.lst [])) := same_new hq
      have q9 : (upd H30 q (.lst [])) q = some (.lst []) := upd_same
      generalize upd H30 q (.lst []) = H31 at s9 q9 ⊢
      have W9 := W.same s9
      have we9 := we.same s9
      have st9 : Step [a] H H31 := st.trans (.of s9)
      have fi9 := s9 _ _ hfi
      have nmL : ∀ x ∈ S.live ++ S.ended ++ S.unborn, x ∈ thrNames := fun x hx => g.nsub x (g.psub x hx)
      have lnL : (S.live ++ S.ended ++ S.unborn).length ≤ 5 := Nat.le_trans (StT.nodup_len g.parts g.psub) g.nlen.2
      have lnL : S.live.length + S.ended.length + S.unborn.length ≤ 5 := by
        rw [List.length_append, List.length_append] at lnL
        exact lnL
      refine ⟨.list (S.live.map PyData.str), .list [], .lst (SqL.of W9.li) (strs_dp _), .lst (SqL.of q9) .nil, shaped_list (strs_good fun x hx => name_str (κ0_thr (nmL x (by simp [hx]))).2), by decide +kernel, _, rfl, ?_⟩
      rw [eqv_nil]
      by_cases hlv : S.live = []
      · rw [hlv]
        exact iteF (hnext _ ⟨_, _, _, _, _, _, _, rfl⟩ _ st9 we9 W9 fi9)
      · have e0 : (!(S.live.map PyData.str).isEmpty) = true := by
          cases q1 : S.live with
          | nil => exact absurd q1 hlv
          | cons _ _ => rfl
        rw [e0]
        refine iteT ?_
        refine st_asg ?_
        refine ⟨_, rfl, _, rfl, A0.wa, _, rfl, W9.get (kv_live A0), a, A0.li, _, rfl, we9, SqL.of W9.li, fun z => hnL (by rw [← z]; simp [WA.own]), by rw [List.length_map]; exact List.length_pos_iff.mpr hlv, by rw [List.length_map]; omega, fun x j n' k' hx => ?_⟩
        rw [List.getElem?_map] at hx
        obtain ⟨t, hti, rfl⟩ := Option.map_eq_some_iff.mp hx
        have htl := List.mem_of_getElem? hti
        obtain ⟨sA, weA⟩ := step_well we9 n' k'
        have WA1 := W9.step sA (by simpa using hnL)
        have fiA := sA.oth _ _ (by simpa using hfia) rfl fi9
        generalize upd H31 a (.lst [.int n', .int k']) = H32 at sA weA WA1 fiA ⊢
        have stA : Step [a] H H32 := st9.trans sA
        refine st_asgJ (fun x H' => Step [a] H H' ∧ WellAt H' a ∧ WorldAt K H' A0 α ns n S ∧ H' fi = some (.dK (tbl (cs ++ cntNames) mn)) ∧ (x = .non ∨ ∃ e, EvAt K H' x e ∧ EvFit S t e)) (fun R hR => ?_) ?_
        · refine ⟨_, rfl, _, rfl, _, rfl, _, rfl, a, wl, A0, α, ns, n, S, t, ws, rfl, weA, hnL, WA1, by omega, sql_ne stA (by simpa using hwa) hwl, hwa, hl0, hl1, hws, by omega, by omega, fun x hx => nmL x (by rcases List.mem_append.mp hx with h | h <;> simp [h]), fun H' s' w' => ?_, fun H' v e s' w' ev fit => ?_⟩
          · exact hR _ _ ⟨stA.trans s', w', WA1.step s' (by simpa using hnL), s'.oth _ _ (by simpa using hfia) rfl fiA, .inl rfl⟩
          · exact hR _ _ ⟨stA.trans s', w', WA1.step s' (by simpa using hnL), s'.oth _ _ (by simpa using hfia) rfl fiA, .inr ⟨e, ev, fit⟩⟩
        rintro x H33 ⟨st3, we3, W3, fi3, hx⟩
        refine st_ifl ?_
        refine ⟨_, rfl, rfl, _, rfl, ?_⟩
        rcases hx with rfl | ⟨e, ev, fit⟩
        · exact iteF (hnext _ ⟨_, _, _, _, _, _, _, rfl⟩ _ st3 we3 W3 fi3)
        · obtain ⟨tv, zv, rfl, _⟩ := id ev
          refine iteT ?_
          refine ⟨_, rfl, _, rfl, _, rfl, A0, α, ns, n, S, t, .ref tv, e, rfl, W3, by omega, ev, fit, g, htl, by omega, fun H' S' s' W' g' er ec => ?_⟩
          refine ⟨⟨_, _, _, _, _, _, _, rfl⟩, S', n + 10, st3.then s' (fun c hc => .inr (frL c hc)), ?_, W', by omega, g', ?_, ec.trans hcs, s'.oth _ _ ndL.2 rfl fi3⟩
          · obtain ⟨x1, x2, x3⟩ := we3
            exact ⟨x1, x2, s'.oth _ _ hnL rfl x3⟩
          · rw [er, addEv_len e (by rw [g.nms]; exact g.nnd) (by rw [g.nms]; exact g.psub t (by simp [htl]))]
            omega
    rintro σ H29 ⟨⟨w8, w9, w10, w11, w12, w13, w14, rfl⟩, S, n, st, we, W, hn, g, hfl, hcs, hfi⟩
    have hfl : (S.rows.map (·.2)).flatten.length ≤ 30 := by
      refine Nat.le_trans hfl ?_
      omega
    have LR := W.lrows g.nms g.nnd
    have hrl : S.rows.length ≤ 5 := by
      have := congrArg List.length g.nms
      rw [List.length_map] at this
      rw [this]
      exact g.nlen.2
    obtain ⟨evs, hevs⟩ : ∃ evs, evs = (S.rows.map (·.2)).flatten := ⟨_, rfl⟩
    have hevl : evs.length ≤ 30 := by rw [hevs]; exact hfl
    dsimp only
    -- used
    refine st_asg ?_
    refine ⟨_, rfl, A0.wa, _, rfl, W.get (kv_rows A0), A0.ra, S.rows, rfl, LR.rows, by omega, by omega, fun H30 pa xs s30 hpa hxs => ?_⟩
    rw [← hevs] at hxs
    have hxl : xs.length = evs.length := Paired.length hxs
    have st3 : Step [a] H H30 := st.then s30 (by simp)
    have fi3 : H30 fi = some (.dK (tbl (cs ++ cntNames) mn)) := s30.oth _ _ (by simp) rfl hfi
    have W3 := W.step s30 (by simp)
    have we3 : WellAt H30 a := by
      obtain ⟨x1, x2, x3⟩ := we
      exact ⟨x1, x2, s30.oth _ _ (by simp) rfl x3⟩
    refine ⟨pa, rfl, ⟨_, SqL.of hpa⟩, fun D hD => ?_⟩
    refine lc_it (walk_list (K := K) (a := pa) (xs := xs)) (AccP H30 D fun i acc H' => acc = (evs.take i).map fun e => oV e.o)
      (acc0 hD rfl) (fun i H' _ q => SqL.of (q.1 _ _ hpa)) ?_ ?_
    · rintro i y H31 H32 hi ⟨s4, acc, hD4, rfl⟩ ⟨rfl, hx⟩
      obtain ⟨e, he, tv, zv, rfl, htv, _⟩ := paired_at hxs hx
      refine ⟨rfl, yes_then ?_⟩
      refine ⟨_, rfl, tv, _, _, _, rfl, rfl, sqt_same s4 htv, atI_nat (j := 1) rfl, acc_put hD s4 hD4 (by rw [List.length_map, List.length_take]; exact Nat.lt_of_le_of_lt (show _ ≤ 1000 by omega) (by decide)) ?_⟩
      show _ = ((evs.take (i + 1)).map fun e => oV e.o)
      rw [List.take_add_one, he, List.map_append]
      rfl
    rintro H31 ⟨s31, acc, hD31, rfl⟩
    rw [hxl, List.take_of_length_le (Nat.le_refl _)] at hD31
    have st4 : Step [a] H H31 := st3.trans (.of s31)
    have W4 := W3.same s31
    have we4 := we3.same s31
    have fi4 := s31 _ _ fi3
    have nDf : D ≠ fi := ne_none fi3 hD
    clear s31 hD W3 we3 fi3 st3 hpa hxs hxl s30 W we st hfi
    obtain ⟨ko, hko⟩ : ∃ ko, ko = cs ++ cntNames := ⟨_, rfl⟩
    have hkol : ko.length ≤ 5 := by rw [hko, List.length_append]; have := W4.cs.2.1; rw [hcs] at this; show cs.length + 2 ≤ 5; omega
    rw [← hko] at fi4 hknd hmn0
    -- begin
    refine st_asg ?_
    refine ⟨fi, _, fi4, trivial, fun od => ?_⟩
    have f5 : (upd H31 fi (.frz od (.dK (tbl ko mn)))) fi = some (.frz od (.dK (tbl ko mn))) := upd_same
    have d5 : (upd H31 fi (.frz od (.dK (tbl ko mn)))) D = some (.lst (evs.map fun e => oV e.o)) := by rw [upd_ne nDf]; exact hD31
    generalize hH5 : upd H31 fi (.frz od (.dK (tbl ko mn))) = H5 at f5 d5 ⊢
    refine ⟨_, rfl, fi, od, rfl, .inl ⟨_, f5, fun D2 hD2 => ?_⟩⟩
    have tln : (tbl ko mn).length = ko.length := by unfold tbl; rw [List.length_map]
    refine lc_it (walk_keys (d := fi) (o := od) (kvs := tbl ko mn)) (AccP H5 D2 fun i acc H' => ∃ prs : List (Addr × Str), acc = prs.map (fun r => V.ref r.1) ∧ prs.map (·.2) = (ko.take i).filter (fun x => decide (∃ e ∈ evs, e.o = some x)) ∧ ∀ r ∈ prs, H' r.1 = some (.tup [.str r.2, .int (mn r.2)]))
      (acc0 hD2 ⟨[], rfl, rfl, fun r hr => nomatch hr⟩) (fun i H' _ q => q.1 _ _ f5) ?_ ?_
    · rintro i y H6 H7 hi ⟨s4, acc, hD4, prs, rfl, e1, e2⟩ ⟨rfl, key, v, hkv, rfl⟩
      unfold tbl at hkv
      rw [List.getElem?_map] at hkv
      obtain ⟨x, hxi, e⟩ := Option.map_eq_some_iff.mp hkv
      cases e
      have hxm := List.mem_of_getElem? hxi
      refine ⟨rfl, ?_⟩
      refine ⟨_, rfl, _, rfl, D, _, rfl, .inl (SqL.of (s4 _ _ d5)), rfl, oV_flat _, _, rfl, ?_⟩
      have e5 : (ko.take (i + 1)).filter (fun x => decide (∃ e ∈ evs, e.o = some x)) = (ko.take i).filter (fun x => decide (∃ e ∈ evs, e.o = some x)) ++ (if decide (∃ e ∈ evs, e.o = some x) = true then [x] else []) := by
        rw [List.take_add_one, hxi, List.filter_append, Option.toList_some, List.filter_cons, List.filter_nil]
      have e4 : prs.length ≤ 5 := by
        have := congrArg List.length e1
        rw [List.length_map] at this
        rw [this]
        refine Nat.le_trans (List.length_filter_le _ _) ?_
        rw [List.length_take]
        omega
      show if (inV (.str x) (evs.map fun e => oV e.o)) = true then _ else _
      rw [in_oV]
      refine ite2 (fun c => ?_) (fun c => ?_)
      · refine ⟨_, rfl, _, rfl, _, rfl, fi, _, rfl, .inl ⟨_, Sum.inr x, .inr ⟨od, s4 _ _ f5⟩, rfl, (tbl_get mn hxm).symm⟩, by show 2 ≤ sizeLine; decide, fun q hq => ?_⟩
        have s6 : Same H7 (upd H7 q (.tup [kV (Sum.inr x), .int (mn x)])) := same_new hq
        have q6 : (upd H7 q (.tup [kV (Sum.inr x), .int (mn x)])) q = some (.tup [.str x, .int (mn x)]) := upd_same
        generalize upd H7 q (.tup [kV (Sum.inr x), .int (mn x)]) = H8 at s6 q6 ⊢
        have st : Step [D2] H8 (upd H8 D2 (.lst (prs.map (fun r => V.ref r.1) ++ [.ref q]))) := .put (s6 _ _ hD4) rfl
        refine acc_put hD2 (s4.trans s6) (s6 _ _ hD4) (by rw [List.length_map]; exact Nat.lt_of_le_of_lt (show prs.length ≤ 1000 by omega) (by decide)) ⟨prs ++ [(q, x)], by simp, ?_, fun r hr => ?_⟩
        · rw [e5, if_pos c, List.map_append, e1]
          rfl
        · rcases List.mem_append.mp hr with hr | hr
          · exact st.tup _ _ rfl (s6 _ _ (e2 r hr))
          · rw [List.mem_singleton.mp hr]
            exact st.tup _ _ rfl q6
      · refine ⟨s4, _, hD4, prs, rfl, ?_, e2⟩
        rw [e5, if_neg c, List.append_nil, e1]
    rintro H6 ⟨s6, acc, hD6, prs, rfl, e1, e2⟩
    rw [tln, List.take_of_length_le (Nat.le_refl _)] at e1
    have f6 := s6 _ _ f5
    refine ⟨f6, ?_⟩
    obtain ⟨ks, hks⟩ : ∃ ks, ks = ko.filter (fun x => decide (∃ e ∈ evs, e.o = some x)) := ⟨_, rfl⟩
    rw [← hks] at e1
    have st7 : Step [] H31 (upd H6 fi (.dK (tbl ko mn))) := .unlock fi4 rfl rfl (by rw [hH5]; exact .of s6)
    have stf : Step [fi] H6 (upd H6 fi (.dK (tbl ko mn))) := .put f6 rfl
    have nD2f : D2 ≠ fi := ne_none f5 hD2
    have hD7 : (upd H6 fi (.dK (tbl ko mn))) D2 = some (.lst ((prs.map (·.1)).map V.ref)) := by rw [upd_ne nD2f, hD6, List.map_map]; rfl
    have e2' : ∀ r ∈ prs, (upd H6 fi (.dK (tbl ko mn))) r.1 = some (.tup [.str r.2, .int (mn r.2)]) := fun r hr => stf.tup _ _ rfl (e2 r hr)
    generalize upd H6 fi (.dK (tbl ko mn)) = H7 at st7 hD7 e2' ⊢
    have hknd' : ks.Nodup := by rw [hks]; exact List.Nodup.sublist List.filter_sublist hknd
    have ekv : (prs.map fun r => ((Sum.inr r.2 : Key), V.int (mn r.2))) = tbl ks mn := by
      unfold tbl
      rw [← e1, List.map_map]
      rfl
    refine ⟨D2, prs.map (·.1), prs.map fun r => (Sum.inr r.2, V.int (mn r.2)), rfl, SqL.of hD7, ?_, fun be hbe => ?_⟩
    · clear e1 ekv hD6 hD7 e2
      induction prs with
      | nil => exact .nil
      | cons r rs ih => exact .cons (SqT.of (e2' r List.mem_cons_self)) (ih fun x hx => e2' x (List.mem_cons_of_mem _ hx))
    rw [ekv, mergeK_nd (tbl_nd hknd')]
    have s8 : Same H7 (upd H7 be (.dK (tbl ks mn))) := same_new hbe
    have b8 : (upd H7 be (.dK (tbl ks mn))) be = some (.dK (tbl ks mn)) := upd_same
    generalize upd H7 be (.dK (tbl ks mn)) = H8 at s8 b8 ⊢
    have st8 : Step [a] H H8 := (st4.then st7 (by simp)).trans (.of s8)
    have W8 := (W4.step st7 (by simp)).same s8
    have we7 : WellAt H7 a := by
      obtain ⟨x1, x2, x3⟩ := we4
      exact ⟨x1, x2, st7.oth _ _ (by simp) rfl x3⟩
    have we8 : WellAt H8 a := we7.same s8
    have beH : H be = none := step_free (st4.then st7 (by simp)) (by
      intro z
      obtain ⟨x1, x2, x3⟩ := we7
      rw [List.mem_singleton.mp z, x3] at hbe
      cases hbe) hbe
    refine st_ret ?_
    refine ⟨_, rfl, A0.wa, _, rfl, W8.get (kv_rows A0), _, rfl, _, rfl, A0.wa, _, rfl, W8.get (kv_run A0), by show 3 ≤ sizeLine; decide, fun tp htp => ?_⟩
    have s9 : Same H8 (upd H8 tp (.tup [.ref A0.ra, .ref be, .ref A0.ru])) := same_new htp
    have W9 := W8.same s9
    refine k _ tp A0.ra be A0.ru S.rows α ks mn S.run (st8.trans (.of s9)) (we8.same s9) upd_same (W9.lrows g.nms g.nnd) (g.good (by omega)) hfl (by rw [g.nms]; exact g.nsub) (frL _ (by simp [WA.own])) (fun p hp => frL _ (List.mem_append_right _ (List.mem_map_of_mem (by rw [← g.nms]; exact List.mem_map_of_mem hp)))) beH (ne_none (W4.step st7 (by simp)).rw hbe) (s9 _ _ b8) hknd' (by rw [hks]; exact Nat.le_trans (List.length_filter_le _ _) hkol) (fun x hx => ?_) W9.run
    rw [hks] at hx
    obtain ⟨h1, h2⟩ := List.mem_filter.mp hx
    obtain ⟨e, he, hex⟩ := of_decide_eq_true h2
    have hcell : κ0 x = .cell ∨ κ0 x = .counter := by
      rw [hko] at h1
      rcases List.mem_append.mp h1 with h | h
      · exact .inl (κ0_cell (hct x h)).1
      · exact .inr (κ0_cnt h).1
    rw [hevs] at he
    obtain ⟨p, hp, hep⟩ := flat_in he
    obtain ⟨j, hj⟩ := List.getElem?_of_mem hep
    have hlk := lookup_of (by rw [g.nms]; exact g.nnd) hp
    have hok := g.ok p.1 p.2 hlk j e hj
    have hkd : kdOf e.w ≠ .lone := fun z => by
      unfold Ev.ok at hok
      rw [z] at hok
      rw [hok.2.1] at hex
      cases hex
    have hk2 := g.kind p.1 p.2 hlk j e hj hkd x hex
    refine ⟨⟨p, hp, e, hep, hex, ?_⟩, hcell, hmn0 x h1⟩
    rw [← hk2]
    rcases hcell with h | h <;> rw [h] <;> rfl
end
end Lg

namespace Lg
open PySem L2 TL
theorem eqv_list {ds : List PyData} (h : ∀ d ∈ ds, GoodD d) : PyData.eqv (.list ds) (.list ds) = true := SeqAt.eqv_refl _ (Bool.and_eq_true_iff.mp (shaped_list h)).1
def prD (q : Str × Nat) : PyData := .tuple [.str q.1, .int (q.2 : Nat)]
theorem prs_dp {K : PySem.W.Frag} {H : Hp} {xs : List V} {qs : List (Str × Nat)} (h : Paired (PrAt K H) xs qs) : DpAll K H xs (qs.map prD) := by
  induction h with
  | nil => exact .nil
  | cons h _ ih =>
    obtain ⟨t, rfl, ht⟩ := h
    exact .cons (.tup ht (.cons (.str _) (.cons (.int _) .nil))) ih
theorem prs_good {qs : List (Str × Nat)} (h : ∀ q ∈ qs, PyData.strOk q.1 = true) : ∀ d ∈ qs.map prD, GoodD d := fun d hd => by
  obtain ⟨q, hq, rfl⟩ := List.mem_map.mp hd
  have := h q hq
  exact ⟨by simp [prD, PyData.canLay0, PyData.canLayAll0, this], by simp [prD, PyData.depth, PyData.depthAll]⟩
theorem evs_good {es : List Ev} (h : ∀ e ∈ es, e.ok) : ∀ d ∈ es.map evD, GoodD d := fun d hd => by
  obtain ⟨e, he, rfl⟩ := List.mem_map.mp hd
  exact ev_good (h e he)
theorem paired_of {α β : Type} {R : α → β → Prop} : ∀ {as : List α} {bs : List β}, as.length = bs.length → (∀ (i : Nat) a b, as[i]? = some a → bs[i]? = some b → R a b) → Paired R as bs
  | [], [], _, _ => .nil
  | [], _ :: _, h, _ => by cases h
  | _ :: _, [], h, _ => by cases h
  | a :: as, b :: bs, h, k => .cons (k 0 a b rfl rfl) (paired_of (Nat.succ.inj h) fun i x y hx hy => k (i + 1) x y (by simpa using hx) (by simpa using hy))
/-- the events by their places -/
theorem evs_at {srows : Rows} (hn : (srows.map (·.1)).Nodup) : Paired (fun (q : Str × Nat) (e : Ev) => ∃ es, srows.lookup q.1 = some es ∧ es[q.2]? = some e) (evsOf srows) (srows.map (·.2)).flatten := by
  have gen : ∀ rs : Rows, (∀ p ∈ rs, srows.lookup p.1 = some p.2) → Paired (fun (q : Str × Nat) (e : Ev) => ∃ es, srows.lookup q.1 = some es ∧ es[q.2]? = some e) (evsOf rs) (rs.map (·.2)).flatten := by
    intro rs
    induction rs with
    | nil => intro _; exact .nil
    | cons p r ih =>
      intro h
      unfold evsOf at ih ⊢
      rw [List.flatMap_cons, List.map_cons, List.flatten_cons]
      refine paired_app (paired_of (by unfold evsRow; rw [List.length_map, List.length_range]) fun i q e hq he => ?_) (ih fun x hx => h x (List.mem_cons_of_mem _ hx))
      unfold evsRow at hq
      rw [List.getElem?_map] at hq
      obtain ⟨j, hj, rfl⟩ := Option.map_eq_some_iff.mp hq
      have hj2 := List.getElem?_range (n := p.2.length) (i := i)
      have : j = i := by
        obtain ⟨h1, h2⟩ := List.getElem?_eq_some_iff.mp hj
        rw [List.getElem_range] at h2
        exact h2.symm
      subst this
      exact ⟨p.2, h p List.mem_cons_self, he⟩
  exact gen srows fun p hp => lookup_of hn hp
theorem paired_right {α β : Type} {R : α → β → Prop} {as : List α} {bs : List β} (h : Paired R as bs) {i : Nat} {a : α} (ha : as[i]? = some a) : ∃ b, bs[i]? = some b ∧ R a b := paired_at h ha
theorem evsOf_name {rows : Rows} {q : Str × Nat} (h : q ∈ evsOf rows) : q.1 ∈ rows.map (·.1) := by
  unfold evsOf at h
  obtain ⟨p, hp, hq⟩ := List.mem_flatMap.mp h
  unfold evsRow at hq
  obtain ⟨i, _, rfl⟩ := List.mem_map.mp hq
  exact List.mem_map_of_mem hp
/-- words without an object -/
abbrev noObj : List Str := ["fork", "join", "step", "end"]
theorem obj_word {e : Ev} (h : e.ok) : (e.w ∉ noObj ↔ objK (kdOf e.w) = true) := by
  have hw := ok_word h
  simp only [wAll, List.mem_cons, List.mem_nil_iff, or_false] at hw
  rcases hw with h | h | h | h | h | h | h | h | h | h | h | h | h <;> rw [h] <;> decide +kernel
theorem obj_some {e : Ev} (h : e.ok) (hk : objK (kdOf e.w) = true) : ∃ x, e.o = some x ∧ nameOk x = true := kd_ok h (fun z => by rw [z] at hk; cases hk)
/-- the objects of these events -/
def objs (es : List Ev) : List Str := es.filterMap fun e => if objK (kdOf e.w) = true then e.o else none
theorem objs_mem {rows : Rows} (x : Str) : x ∈ objs (rows.map (·.2)).flatten ↔ objOf rows x := by
  unfold objs
  rw [List.mem_filterMap]
  constructor
  · rintro ⟨e, he, h⟩
    obtain ⟨p, hp, hep⟩ := flat_in he
    by_cases hk : objK (kdOf e.w) = true
    · rw [if_pos hk] at h
      exact ⟨p, hp, e, hep, h, hk⟩
    · rw [if_neg hk] at h
      cases h
  · rintro ⟨p, hp, e, hep, h, hk⟩
    exact ⟨e, List.mem_flatten.mpr ⟨p.2, List.mem_map_of_mem hp, hep⟩, by rw [if_pos hk]; exact h⟩
theorem objs_len (es : List Ev) : (objs es).length ≤ es.length := List.length_filterMap_le _ _
theorem LogAtO.inst {K : PySem.W.Frag} {H : Hp} {C l : Addr} {rows : Rows} {κ : Str → Kd} {g : Str → Int} {own : List Addr} (h : LogAtO K H C l rows κ g own) : ∃ (dx : Addr) (fs : List (Str × V)), H l = some (.ins C dx fs) ∧ fs.lookup ("threads" : Str) = none ∧ fs.lookup ("events" : Str) = none ∧ fs.lookup ("objects" : Str) = none ∧ fs.lookup ("event" : Str) = none := by
  obtain ⟨dx, ra', na, kd, fo, fi, ce, he, rs, _, ins0, _⟩ := h.ex
  exact ⟨dx, _, ins0, rfl, rfl, rfl, rfl⟩
end Lg

namespace Lg
open PySem L2 TL
section
variable {P : Program} {w : World} {K : PySem.W.Frag} {mg : Str → Option Value} {base : Heap} {f : Addr} {fd : FuncData} {CL : Addr}
abbrev s_law_is_read : Stmt := top 38
theorem sc_law_is_read : FnScope ["_law_log", "_law_rows", "_law_names", "_law_due", "_law_name", "_law_words_here", "_law_objects", "_law_at", "_law_e", "_law_event_here"] ["_law_log", "_law_rows"] (defScope s_law_is_read) := ⟨rfl, rfl, rfl, by decide +kernel, rfl, by decide +kernel, by decide +kernel⟩
def spRead (K : PySem.W.Frag) (CL : Addr) : Sp := fun vs H Q _ => ∃ (l ra : Addr) (rows srows : Rows) (κ : Str → Kd) (g : Str → Int) (own : List Addr), vs = [.ref l, .ref ra] ∧ LogAtO K H CL l srows κ g own ∧ RowsAt K H ra rows ∧ srows.Perm rows ∧
  ∀ H', Step [] H H' → Q (.bl true) H'
theorem ok_law_is_read (F : Fun K "_law_is_read" "_law_is_read" s_law_is_read f fd) (T : Gb K mg) (TL : LogC K CL) (cAll : C0 P w K mg base 1 "_law_all" ["_law_rows"] (spAll K)) (mTh : M0 P w K mg base 1 CL "threads" ["self"] (spTh K CL)) (mEvs : M0 P w K mg base 1 CL "events" ["self"] (spEvs K CL))
    (mOb : M0 P w K mg base 1 CL "objects" ["self"] (spOb K CL)) (mEv : M0 P w K mg base 4 CL "event" ["self", "e"] (spEv K CL)) : FnOk P w K mg base CX0 5 f fd ["_law_log", "_law_rows"] (spRead K CL) := by
  obtain ⟨_, _, cAll⟩ := cAll
  obtain ⟨_, _, mTh⟩ := mTh
  obtain ⟨_, _, mEvs⟩ := mEvs
  obtain ⟨_, _, mOb⟩ := mOb
  obtain ⟨_, _, mEv⟩ := mEv
  refine F.ok sc_law_is_read (fun vs H Q E h => ?_) (fun cdv A outer s H vs Q E hr h => ?_)
  · obtain ⟨l, ra, rows, srows, κ, g, own, rfl, _⟩ := h
    rfl
  · obtain ⟨l, ra, rows, srows, κ, g, own, rfl, hl, hrw, hpm, k⟩ := h
    have hu := hu_of hr
    refine ⟨_, pss_cons (ps_set (i := 2) sc_law_is_read.nd rfl (Or.inl rfl) (pe_callB (call_sortedD rfl) (by rfl) T.m_sorted (by decide +kernel) (pa_cons (pv 1) pa_nil)))
    (pss_cons (ps_if (pt_cmpR (op_neD hr.units) (pe_meth0 (pv 0) TL.cl mTh.me mTh.ok (hr.mono (by decide)) mTh.bd .nil pass0) (pv 2) (nomark _)) (pss_one (ps_ret pe_bl)) (pss_nil))
    (pss_cons (ps_set (i := 3) sc_law_is_read.nd rfl (Or.inl rfl) (pe_lst pa_nil))
    (pss_cons (ps_for PassesOwn.never rfl (pi_list (pv 2)) (pg_name (i := 4) sc_law_is_read.nd rfl (Or.inr rfl))
      (pss_one (ps_set (i := 3) sc_law_is_read.nd rfl (Or.inl rfl) (pe_op op_cat (pv 3) (pe_lc (own := [("_law_at", 7)]) rfl sc_law_is_read.nd (pi_range1 (by rfl) T.m_range (pa_cons (pe_callB call_len_seq (by rfl) T.m_len PySem.boot_len (pa_cons (pe_dget hu (pv 1) (pv 4) (fun _ _ => rfl)) pa_nil)) pa_nil)) (blkOk_by (own := [("_law_at", 7)]) (N := ["_law_log", "_law_rows", "_law_names", "_law_due", "_law_name", "_law_words_here", "_law_objects", "_law_at", "_law_e", "_law_event_here"]) (sc := defScope s_law_is_read) (by decide +kernel)) (fun _ _ _ _ _ => (pg_name (i := 7) sc_law_is_read.nd rfl (Or.inl rfl))) (fun _ _ _ _ _ => pts_nil) (fun _ _ _ _ _ => (pe_tup (pa_cons (pv 4) (pa_cons (pv 7) pa_nil)))))))))
    (pss_cons (ps_if (pt_cmpR (op_neD hr.units) (pe_meth0 (pv 0) TL.cl mEvs.me mEvs.ok (hr.mono (by decide)) mEvs.bd .nil pass0) (pv 3) (nomark _)) (pss_one (ps_ret pe_bl)) (pss_nil))
    (pss_cons (ps_if (pt_cmpR (op_neD hr.units) (pe_lc (own := [("_law_e", 8)]) rfl sc_law_is_read.nd (pi_list (pv 3)) (blkOk_by (own := [("_law_e", 8)]) (N := ["_law_log", "_law_rows", "_law_names", "_law_due", "_law_name", "_law_words_here", "_law_objects", "_law_at", "_law_e", "_law_event_here"]) (sc := defScope s_law_is_read) (by decide +kernel)) (fun _ _ _ _ _ => (pg_name (i := 8) sc_law_is_read.nd rfl (Or.inl rfl))) (fun _ _ _ _ _ => pts_nil) (fun _ _ _ _ _ => (pe_meth (pv 0) TL.cl mEv.me mEv.ok (hr.mono (by decide)) mEv.bd .nil pass0 (pa_cons (pv 8) pa_nil)))) (pe_lc (own := [("_law_name", 4), ("_law_at", 7)]) rfl sc_law_is_read.nd (pi_list (pv 3)) (blkOk_by (own := [("_law_name", 4), ("_law_at", 7)]) (N := ["_law_log", "_law_rows", "_law_names", "_law_due", "_law_name", "_law_words_here", "_law_objects", "_law_at", "_law_e", "_law_event_here"]) (sc := defScope s_law_is_read) (by decide +kernel)) (fun _ _ _ _ _ => (Kx.tupK (K := K) (n := 2) rfl (pgs_cons (pg_name (i := 4) sc_law_is_read.nd rfl (Or.inl rfl)) (pgs_cons (pg_name (i := 7) sc_law_is_read.nd rfl (Or.inl rfl)) pgs_nil)))) (fun _ _ _ _ _ => pts_nil) (fun _ _ _ _ _ => (pe_ix (Kx.ixsK (K := K)) (pe_dget hu (pv 1) (pv 4) (fun _ _ => rfl)) (pv 7) (fun _ _ => rfl)))) (nomark _)) (pss_one (ps_ret pe_bl)) (pss_nil))
    (pss_cons (ps_set (i := 5) sc_law_is_read.nd rfl (Or.inr rfl) (pe_tup (pa_cons pe_str (pa_cons pe_str (pa_cons pe_str (pa_cons pe_str pa_nil))))))
    (pss_cons (ps_setLc (i := 6) (own := [("_law_event_here", 9)]) rfl sc_law_is_read.nd rfl rfl (sw_true rfl rfl rfl (by decide +kernel)) (pi_list (pe_call cAll.ok (hr.mono (by decide)) (by rfl) cAll.mg cAll.kp cAll.bd .nil pass0 (pa_cons (pv 1) pa_nil))) (blkOk_by (own := [("_law_event_here", 9)]) (N := ["_law_log", "_law_rows", "_law_names", "_law_due", "_law_name", "_law_words_here", "_law_objects", "_law_at", "_law_e", "_law_event_here"]) (sc := defScope s_law_is_read) (by decide +kernel)) (fun _ _ _ _ _ => (pg_name (i := 9) sc_law_is_read.nd rfl (Or.inl rfl))) (fun _ _ _ _ _ => (pts_one (pt_cmpR (Kx.ninK (K := K)) (pe_ix (Kx.ixtK (K := K)) (pv 9) pe_int (fun _ _ => rfl)) (pv 5) rfl))) (fun _ _ _ _ _ => (pe_ix (Kx.ixtK (K := K)) (pv 9) pe_int (fun _ _ => rfl))))
    (pss_one (ps_ret (pe_cmpR (op_eqD hr.units) (pe_meth0 (pv 0) TL.cl mOb.me mOb.ok (hr.mono (by decide)) mOb.bd .nil pass0) (pe_callB (StT.cr_srtS rfl) (by rfl) T.m_sorted (by decide +kernel) (pa_cons (pe_callTy (StT.cr_setS rfl) (by rfl) T.m_set (by decide +kernel) (pa_cons (pv 6) pa_nil)) pa_nil)) (nomark _))))))))))), ?_⟩
    have hg := hl.good
    have hgr : Good rows κ := hg.perm hpm.symm
    have hlk : ∀ {H'}, Step [] H H' → LogAtO K H' CL l srows κ g own := fun s => hl.step s (by simp)
    have hrk : ∀ {H'}, Step [] H H' → RowsAt K H' ra rows := fun s => hrw.step s (by simp) (by simp)
    obtain ⟨dx, fs, ins0, nt, ne', no', nv⟩ := hl.inst
    have ins : ∀ {H'}, Step [] H H' → H' l = some (.ins CL dx fs) := fun s => s.oth _ _ (by simp) rfl ins0
    clear ins0
    have hrl : rows.length ≤ 5 := hgr.many.2
    have hfl : (rows.map (·.2)).flatten.length ≤ 40 := hgr.size
    have hsfl : (srows.map (·.2)).flatten.length ≤ 40 := hg.size
    have hevl : (evsOf srows).length ≤ 40 := by rw [evs_len]; exact hsfl
    have nmok : ∀ t ∈ srows.map (·.1), PyData.strOk t = true := fun t ht => name_str (hg.nm ht)
    -- names
    refine st_asg ?_
    obtain ⟨kvs, r1, r2⟩ := id hrw
    refine ⟨_, rfl, ra, kvs, rows.map (·.1), rfl, .inl r1, rws_keys r2, by rw [List.length_map]; omega, fun ys p1 hys hsrt hp1 => ?_⟩
    have ey : ys = srows.map (·.1) := Srt.sorted_eq hsrt hl.srt (hys.trans (hpm.map _).symm)
    subst ey
    have s1 : Same H (upd H p1 (.lst ((srows.map (·.1)).map V.str))) := same_new hp1
    have q1 : (upd H p1 (.lst ((srows.map (·.1)).map V.str))) p1 = some (.lst ((srows.map (·.1)).map V.str)) := upd_same
    generalize upd H p1 (.lst ((srows.map (·.1)).map V.str)) = H1 at s1 q1 ⊢
    have st1 : Step [] H H1 := .of s1
    clear hys hsrt hp1 r1 r2
    -- threads
    refine st_if ?_
    refine ⟨_, rfl, l, dx, fs, rfl, ins st1, nt, l, srows, κ, g, rfl, (hlk st1).log, fun p hp => ⟨_, rfl, ?_⟩⟩
    have s2 : Same H1 (upd H1 p (.lst ((srows.map (·.1)).map V.str))) := same_new hp
    have q2 : (upd H1 p (.lst ((srows.map (·.1)).map V.str))) p = some (.lst ((srows.map (·.1)).map V.str)) := upd_same
    generalize upd H1 p (.lst ((srows.map (·.1)).map V.str)) = H2 at s2 q2 ⊢
    refine ⟨.list ((srows.map (·.1)).map PyData.str), .list ((srows.map (·.1)).map PyData.str), .lst (SqL.of q2) (strs_dp _), .lst (SqL.of (s2 _ _ q1)) (strs_dp _), shaped_list (strs_good nmok), shaped_list (strs_good nmok), _, rfl, ?_⟩
    rw [eqv_list (strs_good nmok)]
    refine iteF ?_
    refine st_nx ?_
    dsimp only
    have st2 : Step [] H H2 := st1.trans (.of s2)
    have q1 := s2 _ _ q1
    clear s1 s2 st1 q2 hp
    -- due
    refine st_asg ?_
    refine ⟨by show 0 ≤ sizeLine; decide, fun p2 hp2 => ?_⟩
    have s3 : Same H2 (upd H2 p2 (.lst [])) := same_new hp2
    have q3 : (upd H2 p2 (.lst [])) p2 = some (.lst []) := upd_same
    generalize upd H2 p2 (.lst []) = H3 at s3 q3 ⊢
    have st3 : Step [] H H3 := st2.trans (.of s3)
    have q1 := s3 _ _ q1
    refine ⟨_, rfl, p1, rfl, ⟨_, SqL.of q1⟩, ?_⟩
    refine for_it (walk_list (K := K) (a := p1) (xs := (srows.map (·.1)).map V.str)) (fun i σ H' => ∃ (pd : Addr) (xs : List V) (w4 w5 w6 w7 w8 w9 : Option V), σ = [some (.ref l), some (.ref ra), some (.ref p1), some (.ref pd), w4, w5, w6, w7, w8, w9] ∧ Same H3 H' ∧ H' pd = some (.lst xs) ∧ Paired (PrAt K H') xs (evsOf (srows.take i)))
      ⟨p2, [], _, _, _, _, _, _, rfl, Same.refl _, q3, .nil⟩ (fun i σ H' _ ⟨_, _, _, _, _, _, _, _, _, s, _⟩ => SqL.of (s _ _ q1)) ?_ ?_
    · rintro i x σ H4 H5 hi ⟨pd, xs, w4, w5, w6, w7, w8, w9, rfl, s4, hpd, hxs⟩ ⟨rfl, hx⟩
      rw [List.getElem?_map, List.getElem?_map] at hx
      obtain ⟨t, ht, rfl⟩ := Option.map_eq_some_iff.mp hx
      obtain ⟨p, hp, rfl⟩ := Option.map_eq_some_iff.mp ht
      have hpm' : p ∈ srows := List.mem_of_getElem? hp
      have hlp := lookup_of hg.nd hpm'
      have hlr : rowOf rows p.1 = p.2 := by
        rw [rowOf, ← lookup_perm hpm hgr.nd, hlp]
        rfl
      have st5 : Step [] H H5 := st3.trans (.of s4)
      obtain ⟨kv, v, e1, e2, ar, ys, rfl, har, hpp⟩ := rows_at (hrk st5) (t := p.1) ((hpm.map _).mem_iff.mp (List.mem_map_of_mem hpm'))
      rw [hlr] at hpp
      have hyl : ys.length = p.2.length := Paired.length hpp
      have hrl' := hg.rlen hpm'
      refine st_asgl ?_
      refine ⟨_, rfl, ?_⟩
      refine ⟨_, rfl, _, rfl, ra, _, rfl, by rw [← e2]; exact DGet.k (k := Sum.inr p.1) e1, ar, ys, rfl, har, ?_⟩
      refine ⟨_, rfl, by omega, by omega, fun D hD => ?_⟩
      refine lc_it (walk_range (lo := 0)) (AccP H5 D fun j acc H' => Paired (PrAt K H') acc ((List.range j).map fun j => (p.1, j))) (acc0 hD .nil) (fun _ _ _ _ => trivial) ?_ ?_
      · rintro j y H6 H7 hj ⟨s6, acc, hD6, hacc⟩ ⟨rfl, rfl⟩
        have hj2 : j < p.2.length := by
          rw [hyl] at hj
          omega
        refine ⟨rfl, yes_then ?_⟩
        refine ⟨_, rfl, _, rfl, by show 2 ≤ sizeLine; decide, fun q hq => ?_⟩
        have s7 : Same H7 (upd H7 q (.tup [.str p.1, .int (0 + (j : Nat))])) := same_new hq
        have t7 : (upd H7 q (.tup [.str p.1, .int (0 + (j : Nat))])) q = some (.tup [.str p.1, .int (0 + (j : Nat))]) := upd_same
        generalize upd H7 q (.tup [.str p.1, .int (0 + (j : Nat))]) = H8 at s7 t7 ⊢
        refine acc_put hD (s6.trans s7) (s7 _ _ hD6) ?_ ?_
        · have e3 := Paired.length hacc
          rw [List.length_map, List.length_range] at e3
          exact Nat.lt_of_le_of_lt (show acc.length ≤ 1000 by omega) (by decide)
        · have st : Step [D] H7 (upd H8 D (.lst (acc ++ [.ref q]))) := (StepB.of s7).trans (.put (s7 _ _ hD6) rfl)
          rw [List.range_succ, List.map_append]
          refine paired_push (prs_step st hacc) ⟨q, rfl, ?_⟩
          have e3 : (0 + (j : Int)) = ((j : Nat) : Int) := by omega
          rw [e3] at t7
          exact sqt_step (StepB.put (n := true) (s7 _ _ hD6) rfl) (SqT.of t7)
      · rintro H6 ⟨s6, acc, hD6, hacc⟩
        have e4 : ((ys.length : Nat) : Int).toNat = p.2.length := by rw [hyl]; simp
        have hacc : Paired (PrAt K H6) acc (evsRow p) := by simpa [evsRow, hyl] using hacc
        have x6 := prs_step (nt := true) (l := []) (.of s6) hxs
        refine ⟨pd, D, xs, acc, rfl, rfl, s6 _ _ hpd, hD6, ?_, fun c hc => ?_⟩
        · have a1 := Paired.length hxs
          have a2 := Paired.length hacc
          have a3 : (evsOf (srows.take i)).length + (evsRow p).length ≤ 40 := by
            have := cnt_le hp (Nat.le_refl _) hsfl
            unfold cnt at this
            rw [evs_len]
            unfold evsRow
            rw [List.length_map, List.length_range]
            exact this
          exact Nat.le_trans (show xs.length + acc.length ≤ 1000 by omega) (by decide)
        · have s7 := same_new (o := .lst (xs ++ acc)) hc
          refine ⟨c, xs ++ acc, _, _, _, _, _, _, rfl, (s4.trans s6).trans s7, upd_same, ?_⟩
          rw [evs_take hp]
          exact paired_app (prs_step (nt := true) (l := []) (.of s7) x6) (prs_step (nt := true) (l := []) (.of s7) hacc)
    rintro σ H4 ⟨pd, xs, w4, w5, w6, w7, w8, w9, rfl, s4, hpd, hxs⟩
    rw [List.length_map, List.length_map, List.take_of_length_le (Nat.le_refl _)] at hxs
    have st4 : Step [] H H4 := st3.trans (.of s4)
    clear s4 q1 q3 s3 hp2 st3 st2
    dsimp only
    have hxl : xs.length ≤ 40 := by rw [Paired.length hxs]; exact hevl
    have prg : ∀ d ∈ (evsOf srows).map prD, GoodD d := prs_good fun q hq => nmok _ (evsOf_name hq)
    -- events
    refine st_if ?_
    refine ⟨_, rfl, l, dx, fs, rfl, ins st4, ne', l, srows, κ, g, rfl, (hlk st4).log, fun H5 p5 ys s5 hp5 hq5 hys => ⟨_, rfl, ?_⟩⟩
    have hx5 := prs_step (nt := true) (l := []) (.of s5) hxs
    refine ⟨.list ((evsOf srows).map prD), .list ((evsOf srows).map prD), .lst (SqL.of hq5) (prs_dp hys), .lst (SqL.of (s5 _ _ hpd)) (prs_dp hx5), shaped_list prg, shaped_list prg, _, rfl, ?_⟩
    rw [eqv_list prg]
    refine iteF ?_
    refine st_nx ?_
    dsimp only
    have st5 : Step [] H H5 := st4.trans (.of s5)
    have hpd5 := s5 _ _ hpd
    clear hxs hpd hys hq5 hp5 s5 st4
    obtain ⟨evs, hevs⟩ : ∃ evs, evs = (srows.map (·.2)).flatten := ⟨_, rfl⟩
    have hat := evs_at hg.nd
    rw [← hevs] at hat hsfl
    have evok : ∀ e ∈ evs, e.ok := fun e he => by
      rw [hevs] at he
      obtain ⟨p, hp, hep⟩ := flat_in he
      exact hg.oks hp e hep
    have ltake : ∀ i : Nat, (evs.take i).length ≤ 40 := fun i => by
      rw [List.length_take]
      omega
    -- the events themselves
    refine st_if ?_
    refine ⟨_, rfl, pd, rfl, ⟨_, SqL.of hpd5⟩, fun D hD => ?_⟩
    refine lc_it (walk_list (K := K) (a := pd) (xs := xs)) (AccP H5 D fun i acc H' => Paired (EvAt K H') acc (evs.take i)) (acc0 hD .nil) (fun i H' _ q => SqL.of (q.1 _ _ hpd5)) ?_ ?_
    · rintro i y H6 H7 hi ⟨s6, acc, hD6, hacc⟩ ⟨rfl, hx⟩
      obtain ⟨q, hq, tq, rfl, htq⟩ := paired_at hx5 hx
      obtain ⟨e, he, es, hes, hei⟩ := paired_right hat hq
      have st7 : Step [] H H7 := st5.trans (.of s6)
      refine ⟨rfl, yes_then ?_⟩
      refine ⟨_, rfl, l, dx, fs, rfl, ins st7, nv, _, rfl, l, tq, srows, κ, g, q.1, q.2, es, e, rfl, (hlk st7).log, sqt_same s6 htq, hes, hei, fun v hv => ?_⟩
      have a3 := Paired.length hacc
      have a4 := ltake i
      refine acc_put hD s6 hD6 (Nat.lt_of_le_of_lt (show acc.length ≤ 1000 by omega) (by decide)) ?_
      have st : Step [D] H7 (upd H7 D (.lst (acc ++ [v]))) := .put hD6 rfl
      rw [List.take_add_one, he]
      exact paired_push (evs_step st hacc) (hv.step st)
    rintro H6 ⟨s6, acc6, hD6, hacc6⟩
    have exl : xs.length = evs.length := (Paired.length hx5).trans (Paired.length hat)
    rw [exl, List.take_of_length_le (Nat.le_refl _)] at hacc6
    have st6 : Step [] H H6 := st5.trans (.of s6)
    have hpd6 := s6 _ _ hpd5
    have hx6 := prs_step (nt := true) (l := []) (.of s6) hx5
    refine ⟨_, rfl, pd, rfl, ⟨_, SqL.of hpd6⟩, fun D2 hD2 => ?_⟩
    refine lc_it (walk_list (K := K) (a := pd) (xs := xs)) (AccP H6 D2 fun i acc H' => Paired (EvAt K H') acc (evs.take i)) (acc0 hD2 .nil) (fun i H' _ q => SqL.of (q.1 _ _ hpd6)) ?_ ?_
    · rintro i y H7 H8 hi ⟨s8, acc, hD8, hacc⟩ ⟨rfl, hx⟩
      obtain ⟨q, hq, tq, rfl, htq⟩ := paired_at hx6 hx
      obtain ⟨e, he, es, hes, hei⟩ := paired_right hat hq
      have st8 : Step [] H H8 := st6.trans (.of s8)
      have hqn : q.1 ∈ rows.map (·.1) := (hpm.map _).mem_iff.mp (evsOf_name (List.mem_of_getElem? hq))
      obtain ⟨kv, v, e1, e2, ar, ys, rfl, har, hpp⟩ := rows_at (hrk st8) hqn
      have hlr : rowOf rows q.1 = es := by
        rw [rowOf, ← lookup_perm hpm hgr.nd, hes]
        rfl
      rw [hlr] at hpp
      obtain ⟨x, hxe, hxv⟩ := paired_back hpp hei
      refine ⟨tq, _, rfl, sqt_same s8 htq, rfl, _, _, rfl, _, _, rfl, rfl, rfl, yes_then ?_⟩
      refine ⟨_, rfl, _, rfl, ra, _, rfl, by rw [← e2]; exact DGet.k (k := Sum.inr q.1) e1, _, rfl, rd_ix har (atI_nat hxe) ?_⟩
      have a3 := Paired.length hacc
      have a4 := ltake i
      refine acc_put hD2 s8 hD8 (Nat.lt_of_le_of_lt (show acc.length ≤ 1000 by omega) (by decide)) ?_
      have st : Step [D2] H8 (upd H8 D2 (.lst (acc ++ [x]))) := .put hD8 rfl
      rw [List.take_add_one, he]
      exact paired_push (evs_step st hacc) (hxv.step st)
    rintro H7 ⟨s7, acc7, hD7, hacc7⟩
    rw [exl, List.take_of_length_le (Nat.le_refl _)] at hacc7
    have st7 : Step [] H H7 := st6.trans (.of s7)
    refine ⟨.list (evs.map evD), .list (evs.map evD), .lst (SqL.of (s7 _ _ hD6)) (evs_dp (evs_same s7 hacc6)), .lst (SqL.of hD7) (evs_dp hacc7), shaped_list (evs_good evok), shaped_list (evs_good evok), _, rfl, ?_⟩
    rw [eqv_list (evs_good evok)]
    refine iteF ?_
    refine st_nx ?_
    dsimp only
    clear hacc6 hacc7 hD6 hD7 s6 s7 hx6 hx5 hpd6 hpd5 st6 st5 hD hD2 exl hat
    -- objects
    refine st_asg ?_
    refine ⟨by show 4 ≤ sizeLine; decide, fun pw hpw => ?_⟩
    have s8 : Same H7 (upd H7 pw (.tup [.str "fork", .str "join", .str "step", .str "end"])) := same_new hpw
    have q8 : (upd H7 pw (.tup [.str "fork", .str "join", .str "step", .str "end"])) pw = some (.tup (noObj.map V.str)) := upd_same
    generalize upd H7 pw (.tup [.str "fork", .str "join", .str "step", .str "end"]) = H8 at s8 q8 ⊢
    have st8 : Step [] H H8 := st7.trans (.of s8)
    refine st_asg ?_
    refine ⟨_, rfl, ra, rows, rfl, hrk st8, by omega, by omega, fun H9 pa zs s9 hpa hzs => ?_⟩
    have st9 : Step [] H H9 := st8.trans s9
    have q9 := s9.tup _ _ rfl q8
    obtain ⟨ev2, hev2⟩ : ∃ ev2, ev2 = (rows.map (·.2)).flatten := ⟨_, rfl⟩
    rw [← hev2] at hzs hfl
    have ev2ok : ∀ e ∈ ev2, e.ok := fun e he => by
      rw [hev2] at he
      obtain ⟨p, hp, hep⟩ := flat_in he
      exact hgr.oks hp e hep
    refine ⟨pa, rfl, ⟨_, SqL.of hpa⟩, fun D hD => ?_⟩
    refine lc_it (walk_list (K := K) (a := pa) (xs := zs)) (AccP H9 D fun i acc H' => acc = (objs (ev2.take i)).map V.str) (acc0 hD rfl) (fun i H' _ q => SqL.of (q.1 _ _ hpa)) ?_ ?_
    · rintro i y HA HB hi ⟨sA, acc, hDA, rfl⟩ ⟨rfl, hx⟩
      obtain ⟨e, he, te, ze, rfl, hte, _⟩ := paired_at hzs hx
      have heo := ev2ok e (List.mem_of_getElem? he)
      refine ⟨rfl, ?_⟩
      refine ⟨_, rfl, te, _, _, _, rfl, rfl, sqt_same sA hte, atI_nat (j := 0) rfl, _, rfl, pw, _, rfl, .inr (SqT.of (sA _ _ q9)), rfl, all_flat _, _, rfl, ?_⟩
      rw [in_strs]
      have e5 : objs (ev2.take (i + 1)) = objs (ev2.take i) ++ (if objK (kdOf e.w) = true then e.o else none).toList := by
        unfold objs
        rw [List.take_add_one, he, List.filterMap_append]
        congr 1
      by_cases hk : objK (kdOf e.w) = true
      · have hn := (obj_word heo).mpr hk
        show if (!decide (e.w ∈ noObj)) = true then _ else _
        rw [decide_eq_false hn]
        refine iteT ?_
        obtain ⟨x, hx0, _⟩ := obj_some heo hk
        refine ⟨_, rfl, te, _, _, _, rfl, rfl, sqt_same sA hte, atI_nat (j := 1) rfl, acc_put hD sA hDA ?_ ?_⟩
        · rw [List.length_map]
          have a1 := objs_len (ev2.take i)
          rw [List.length_take] at a1
          exact Nat.lt_of_le_of_lt (show _ ≤ 1000 by omega) (by decide)
        · show _ = (objs (ev2.take (i + 1))).map V.str
          rw [e5, if_pos hk, hx0, List.map_append]
          rfl
      · have hn : e.w ∈ noObj := Classical.not_not.mp fun z => hk ((obj_word heo).mp z)
        show if (!decide (e.w ∈ noObj)) = true then _ else _
        rw [decide_eq_true hn]
        refine iteF ⟨sA, _, hDA, ?_⟩
        show _ = (objs (ev2.take (i + 1))).map V.str
        rw [e5, if_neg hk]
        simp
    rintro HA ⟨sA, acc, hDA, rfl⟩
    have ezl : zs.length = ev2.length := Paired.length hzs
    rw [ezl, List.take_of_length_le (Nat.le_refl _)] at hDA
    have stA : Step [] H HA := st9.trans (.of sA)
    have hol : (objs ev2).length ≤ 40 := Nat.le_trans (objs_len ev2) hfl
    refine st_ret ?_
    refine ⟨_, rfl, l, dx, fs, rfl, ins stA, no', l, srows, κ, g, rfl, (hlk stA).log, fun ys pb hys1 hys2 hys3 hpb => ?_⟩
    have sB : Same HA (upd HA pb (.lst (ys.map V.str))) := same_new hpb
    have qB : (upd HA pb (.lst (ys.map V.str))) pb = some (.lst (ys.map V.str)) := upd_same
    generalize upd HA pb (.lst (ys.map V.str)) = HB at sB qB ⊢
    refine ⟨_, rfl, D, objs ev2, rfl, SqL.of (sB _ _ hDA), by omega, fun pc m hpc hm1 hm2 hm3 => ?_⟩
    refine ⟨pc, m, rfl, upd_same, by omega, fun pe zs' hpe hz1 hz2 => ?_⟩
    have ez : zs' = ys := Srt.sorted_mem hz2 hys1 (hz1.nodup_iff.mpr hm2) hys2 fun x => by
      rw [hz1.mem_iff, hm1, hys3, hev2, objs_mem, objOf_perm hpm]
    subst ez
    have sC := same_new (H := HB) (o := StT.SetS P w pc m) hpc
    have hBC := sC _ _ qB
    have sD := same_new (o := .lst (zs'.map V.str)) hpe
    have qD : (upd (upd HB pc (StT.SetS P w pc m)) pe (.lst (zs'.map V.str))) pe = some (.lst (zs'.map V.str)) := upd_same
    have g3 : ∀ d ∈ zs'.map PyData.str, GoodD d := strs_good fun x hx => name_str (obj_name hg ((hys3 x).mp hx))
    refine ⟨.list (zs'.map PyData.str), .list (zs'.map PyData.str), .lst (SqL.of (sD _ _ hBC)) (strs_dp _), .lst (SqL.of qD) (strs_dp _), shaped_list g3, shaped_list g3, ?_⟩
    rw [eqv_list g3]
    exact k _ (stA.trans (.of ((sB.trans sC).trans sD)))
end
end Lg

namespace Lg
open PySem L2 TL
/-! ### one row changed -/
def setRow (rows : Rows) (t : Str) (es : List Ev) : Rows := rows.map fun p => if p.1 = t then (p.1, es) else p
theorem setRow_names (rows : Rows) (t : Str) (es : List Ev) : (setRow rows t es).map (·.1) = rows.map (·.1) := by
  unfold setRow
  rw [List.map_map]
  refine List.map_congr_left fun p _ => ?_
  show (if p.1 = t then (p.1, es) else p).1 = p.1
  split <;> rfl
theorem setRow_lookup (rows : Rows) (t : Str) (es : List Ev) (u : Str) : (setRow rows t es).lookup u = (rows.lookup u).map fun x => if u = t then es else x := by
  induction rows with
  | nil => rfl
  | cons p r ih =>
    obtain ⟨y, ys⟩ := p
    unfold setRow at ih ⊢
    rw [List.map_cons]
    by_cases h : u = y
    · subst h
      by_cases h2 : u = t
      · simp [h2]
      · simp [h2]
    · have ne : (u == y) = false := beq_eq_false_iff_ne.mpr h
      by_cases h2 : y = t
      · rw [if_pos h2, List.lookup_cons, List.lookup_cons, ne]
        exact ih
      · rw [if_neg h2, List.lookup_cons, List.lookup_cons, ne]
        exact ih
theorem setRow_nil {rows : Rows} {t : Str} {es : List Ev} (h : t ∉ rows.map (·.1)) : setRow rows t es = rows := by
  unfold setRow
  have : (rows.map fun p => if p.1 = t then (p.1, es) else p) = rows.map id := List.map_congr_left fun p hp => by
    rw [if_neg fun z => h (by rw [← z]; exact List.mem_map_of_mem hp)]
    rfl
  rw [this, List.map_id]
theorem setRow_flat {rows : Rows} {t : Str} {es : List Ev} (hn : (rows.map (·.1)).Nodup) (ht : t ∈ rows.map (·.1)) {β : Type} (F : List Ev → List β) (hF : ∀ a b, F (a ++ b) = F a ++ F b) (h0 : F [] = []) (he : F es = F (rowOf rows t)) :
    F ((setRow rows t es).map (·.2)).flatten = F (rows.map (·.2)).flatten := by
  induction rows with
  | nil => cases ht
  | cons p r ih =>
    obtain ⟨y, ys⟩ := p
    obtain ⟨n1, n2⟩ := List.nodup_cons.mp (show (y :: r.map (·.1)).Nodup from hn)
    by_cases h : y = t
    · subst h
      have e1 : setRow ((y, ys) :: r) y es = (y, es) :: r := by
        show (if y = y then (y, es) else (y, ys)) :: setRow r y es = _
        rw [if_pos rfl, setRow_nil n1]
      have e2 : rowOf ((y, ys) :: r) y = ys := by unfold rowOf; rw [List.lookup_cons_self]; rfl
      rw [e2] at he
      rw [e1, List.map_cons, List.map_cons, List.flatten_cons, List.flatten_cons, hF, hF, he]
    · have e1 : setRow ((y, ys) :: r) t es = (y, ys) :: setRow r t es := by
        show (if y = t then (y, es) else (y, ys)) :: setRow r t es = _
        rw [if_neg h]
      have ne : (t == y) = false := beq_eq_false_iff_ne.mpr fun z => h z.symm
      have e2 : rowOf ((y, ys) :: r) t = rowOf r t := by unfold rowOf; rw [List.lookup_cons, ne]
      rw [e2] at he
      rw [e1, List.map_cons, List.map_cons, List.flatten_cons, List.flatten_cons, hF, hF, ih n2 ((List.mem_cons.mp ht).resolve_left fun z => h z.symm) he]
theorem setRow_len {rows : Rows} {t : Str} {es : List Ev} (hn : (rows.map (·.1)).Nodup) (ht : t ∈ rows.map (·.1)) (he : es.length ≤ (rowOf rows t).length + 1) : ((setRow rows t es).map (·.2)).flatten.length ≤ (rows.map (·.2)).flatten.length + 1 := by
  induction rows with
  | nil => cases ht
  | cons p r ih =>
    obtain ⟨y, ys⟩ := p
    obtain ⟨n1, n2⟩ := List.nodup_cons.mp (show (y :: r.map (·.1)).Nodup from hn)
    by_cases h : y = t
    · subst h
      have e1 : setRow ((y, ys) :: r) y es = (y, es) :: r := by
        show (if y = y then (y, es) else (y, ys)) :: setRow r y es = _
        rw [if_pos rfl, setRow_nil n1]
      have e2 : rowOf ((y, ys) :: r) y = ys := by unfold rowOf; rw [List.lookup_cons_self]; rfl
      rw [e2] at he
      rw [e1, List.map_cons, List.map_cons, List.flatten_cons, List.flatten_cons, List.length_append, List.length_append]
      dsimp only
      omega
    · have e1 : setRow ((y, ys) :: r) t es = (y, ys) :: setRow r t es := by
        show (if y = t then (y, es) else (y, ys)) :: setRow r t es = _
        rw [if_neg h]
      have ne : (t == y) = false := beq_eq_false_iff_ne.mpr fun z => h z.symm
      have e2 : rowOf ((y, ys) :: r) t = rowOf r t := by unfold rowOf; rw [List.lookup_cons, ne]
      rw [e2] at he
      have := ih n2 ((List.mem_cons.mp ht).resolve_left fun z => h z.symm) he
      rw [e1, List.map_cons, List.map_cons, List.flatten_cons, List.flatten_cons, List.length_append, List.length_append]
      dsimp only
      omega
/-- the rows with another row for t are good, too -/
theorem Good.change {rows : Rows} {κ : Str → Kd} {t : Str} {es' : List Ev} (g : Good rows κ) (ht : t ∈ rows.map (·.1)) (hnj : ∀ p ∈ rows, ∀ e ∈ p.2, e.w ≠ "join") (hsz : (rows.map (·.2)).flatten.length ≤ 39)
    (hev : ∀ (i : Nat) e, es'[i]? = some e → e.ok ∧ (kdOf e.w = .lone ∨ e ∈ rowOf rows t) ∧ (e.w = "end" → i + 1 = es'.length)) (hh : HeldRow es') (hf : es'.flatMap forkE = (rowOf rows t).flatMap forkE) (hl : es'.length ≤ (rowOf rows t).length + 1) : Good (setRow rows t es') κ := by
  have hnm := setRow_names rows t es'
  obtain ⟨es0, hes0⟩ := lookup_mem ht
  have er : rowOf rows t = es0 := by unfold rowOf; rw [hes0]; rfl
  have g0 := g.row t es0 hes0
  have look : ∀ x es, rows.lookup x = some es → ∃ es2, (setRow rows t es').lookup x = some es2 ∧ ∀ e ∈ es2, e.ok := fun x es h => by
    refine ⟨if x = t then es' else es, by rw [setRow_lookup, h]; rfl, fun e he => ?_⟩
    by_cases q : x = t
    · rw [if_pos q] at he
      obtain ⟨i, hi⟩ := List.getElem?_of_mem he
      exact (hev i e hi).1
    · rw [if_neg q] at he
      obtain ⟨i, hi⟩ := List.getElem?_of_mem he
      exact ((g.row x es h).ev i e hi).ok
  have evg : ∀ (u : Str) (len i : Nat) (e : Ev), (∃ (es : List Ev) (j : Nat), rows.lookup u = some es ∧ es[j]? = some e) → (e.w = "end" → i + 1 = len) → EvGood (setRow rows t es') κ u len i e := fun u len i e ⟨es, j, h1, h2⟩ hlast => by
    have o := (g.row u es h1).ev j e h2
    refine ⟨o.ok, o.kind, fun hk x hx => ?_, hlast⟩
    obtain ⟨a, es2, b, c, d⟩ := o.thr hk x hx
    obtain ⟨es3, h3, h4⟩ := look x es2 b
    exact ⟨a, es3, h3, h4, fun hj => absurd hj (hnj (u, es) (lookup_pair h1) e (List.mem_of_getElem? h2))⟩
  refine ⟨fun u es h => ?_, by rw [hnm]; exact g.nd, fun u hu => g.kt u (by rw [← hnm]; exact hu), ?_, ?_, ?_⟩
  · rw [setRow_lookup] at h
    cases q : rows.lookup u with
    | none => rw [q] at h; cases h
    | some es1 =>
      rw [q] at h
      have h := Option.some.inj h
      dsimp only at h
      by_cases hu : u = t
      · rw [if_pos hu] at h
        subst h
        subst hu
        refine ⟨g0.nm, fun i e hi => ?_, hh⟩
        obtain ⟨h1, h2, h3⟩ := hev i e hi
        rcases h2 with h2 | h2
        · exact ⟨h1, fun z => absurd h2 z, (fun z => by rw [h2] at z; cases z), h3⟩
        · rw [er] at h2
          obtain ⟨j, hj⟩ := List.getElem?_of_mem h2
          exact evg u _ i e ⟨es0, j, hes0, hj⟩ h3
      · rw [if_neg hu] at h
        subst h
        have o := g.row u es1 q
        exact ⟨o.nm, fun i e hi => evg u _ i e ⟨es1, i, q, hi⟩ (o.ev i e hi).last, o.held⟩
  · rw [setRow_flat g.nd ht (fun l => l.flatMap forkE) (fun a b => List.flatMap_append) rfl hf]
    exact g.forks
  · have e := congrArg List.length hnm
    rw [List.length_map, List.length_map] at e
    rw [e]
    exact g.many
  · have := setRow_len g.nd ht hl
    omega
theorem held_to {es : List Ev} (h : HeldRow es) : ∃ k, HeldTo es k := let ⟨hs, a, b⟩ := h; ⟨_, hs, a, b, rfl⟩
abbrev evStep : Ev := ⟨"step", none, .non⟩
theorem step_ok : evStep.ok := ⟨by decide +kernel, rfl, rfl⟩
theorem Good.addStep {rows : Rows} {κ : Str → Kd} {t : Str} (g : Good rows κ) (ht : t ∈ rows.map (·.1)) (hnj : ∀ p ∈ rows, ∀ e ∈ p.2, e.w ≠ "join") (hsz : (rows.map (·.2)).flatten.length ≤ 39) (hend : endsB (rowOf rows t) = false) : Good (setRow rows t (rowOf rows t ++ [evStep])) κ := by
  obtain ⟨es0, hes0⟩ := lookup_mem ht
  have er : rowOf rows t = es0 := by unfold rowOf; rw [hes0]; rfl
  have g0 := g.row t es0 hes0
  refine g.change ht hnj hsz (fun i e hi => ?_) ?_ ?_ (by rw [List.length_append]; exact Nat.le_refl _)
  · rw [er] at hi ⊢
    by_cases hl : i < es0.length
    · rw [List.getElem?_append_left hl] at hi
      have o := g0.ev i e hi
      refine ⟨o.ok, .inr (List.mem_of_getElem? hi), fun hw => ?_⟩
      have h1 := o.last hw
      have h2 : es0.getLast? = some e := by
        rw [List.getLast?_eq_getElem?, ← h1]
        exact hi
      rw [er] at hend
      unfold endsB at hend
      rw [h2] at hend
      simp [isEnd, hw] at hend
    · rw [List.getElem?_append_right (by omega)] at hi
      have hi2 : i = es0.length := by
        have := (List.getElem?_eq_some_iff.mp hi).1
        simp at this
        omega
      subst hi2
      rw [Nat.sub_self] at hi
      cases hi
      exact ⟨step_ok, .inl rfl, fun hw => absurd hw (by decide +kernel)⟩
  · obtain ⟨k, hk⟩ := held_to g0.held
    rw [er]
    exact (hk.push (h' := k) rfl).row
  · rw [List.flatMap_append]
    show _ ++ [] = _
    rw [List.append_nil]
theorem Good.dropEnd {rows : Rows} {κ : Str → Kd} {t : Str} (g : Good rows κ) (ht : t ∈ rows.map (·.1)) (hnj : ∀ p ∈ rows, ∀ e ∈ p.2, e.w ≠ "join") (hsz : (rows.map (·.2)).flatten.length ≤ 39) (hend : endsB (rowOf rows t) = true) : Good (setRow rows t (rowOf rows t).dropLast) κ := by
  obtain ⟨es0, hes0⟩ := lookup_mem ht
  have er : rowOf rows t = es0 := by unfold rowOf; rw [hes0]; rfl
  have g0 := g.row t es0 hes0
  rw [er] at hend
  have hne : es0 ≠ [] := fun z => by rw [z] at hend; cases hend
  have hsp : es0.dropLast ++ [es0.getLast hne] = es0 := List.dropLast_concat_getLast hne
  have hlast : (es0.getLast hne).w = "end" := by
    unfold endsB at hend
    rw [List.getLast?_eq_some_getLast hne] at hend
    exact eq_of_beq hend
  have idx : ∀ (i : Nat) e, es0.dropLast[i]? = some e → es0[i]? = some e ∧ i + 1 < es0.length := fun i e hi => by
    obtain ⟨h1, h2⟩ := List.getElem?_eq_some_iff.mp hi
    rw [List.length_dropLast] at h1
    rw [List.getElem_dropLast] at h2
    exact ⟨by rw [List.getElem?_eq_getElem (by omega), h2], by omega⟩
  refine g.change ht hnj hsz (fun i e hi => ?_) ?_ ?_ (by rw [List.length_dropLast]; omega)
  · rw [er] at hi ⊢
    obtain ⟨h1, h2⟩ := idx i e hi
    have o := g0.ev i e h1
    refine ⟨o.ok, .inr (List.mem_of_getElem? h1), fun hw => ?_⟩
    have := o.last hw
    omega
  · obtain ⟨hs, a, b⟩ := g0.held
    rw [er]
    exact ⟨hs, a, fun i e hi => b i e (idx i e hi).1⟩
  · rw [er]
    conv => rhs; rw [← hsp]
    rw [List.flatMap_append]
    have : forkE (es0.getLast hne) = [] := by unfold forkE; rw [if_neg (by rw [hlast]; decide +kernel)]
    simp [this]
theorem setRow_obj {rows : Rows} {t : Str} {es' : List Ev} (hn : (rows.map (·.1)).Nodup) (ht : t ∈ rows.map (·.1)) (h : objs es' = objs (rowOf rows t)) (x : Str) : objOf (setRow rows t es') x ↔ objOf rows x := by
  rw [← objs_mem, ← objs_mem, setRow_flat hn ht objs (fun a b => by unfold objs; rw [List.filterMap_append]) rfl h]
end Lg

namespace Lg
open PySem L2 TL
/-! ### what stands while one number of the script is gone through -/
structure LogR where
  l : Addr
  rows : Rows
  g : Str → Int
  own : List Addr
structure EnvI (K : PySem.W.Frag) (CL : Addr) (TT : List (Addr × Str)) (a ra : Addr) (α : Str → Addr) (rows : Rows) (H : Hp) (Fs : List (Addr × HO)) (Ls : List LogR) : Prop where
  we : WellAt H a
  fs : ∀ q ∈ Fs, H q.1 = some q.2 ∧ tblO q.2 = false ∧ (∀ p, q.2 ≠ .ext p) ∧ q.1 ≠ a
  nd : (Fs.map (·.1)).Nodup
  rw : LRowsAt K H ra α rows
  rwa : ra ≠ a ∧ ∀ p ∈ rows, α p.1 ≠ a
  apr : ∀ q ∈ Fs, q.1 ≠ ra ∧ ∀ p ∈ rows, q.1 ≠ α p.1
  logs : ∀ L ∈ Ls, LogAtO K H CL L.l L.rows κ0 L.g L.own ∧ a ∉ L.own ∧ ∀ q ∈ Fs, q.1 ∉ L.own
  tabs : LamX.Tabs TT H
section
variable {K : PySem.W.Frag} {CL : Addr} {TT : List (Addr × Str)} {a ra : Addr} {α : Str → Addr} {rows : Rows} {H H' : Hp} {Fs Gs : List (Addr × HO)} {Ls Ms : List LogR}
theorem LogAtO.there {C l : Addr} {rows : Rows} {κ : Str → Kd} {g : Str → Int} {own : List Addr} (h : LogAtO K H C l rows κ g own) {b : Addr} (hb : b ∈ own) : ∃ u, H b = some u := by
  obtain ⟨dx, ra, na, kd, fo, fi, ce, he, rs, eo, h1, ⟨kvs, h2, _⟩, h3, ⟨kk, h4, h5⟩, zs, h6, h7⟩ := h.ex
  rw [eo] at hb
  simp only [List.mem_cons, List.mem_nil_iff, or_false] at hb
  rcases hb with rfl | rfl | rfl | rfl
  · exact ⟨_, h1⟩
  · exact ⟨_, h2⟩
  · exact ⟨_, h4⟩
  · exact ⟨_, h6⟩
/-- a place that none of these rests on -/
def Apart (a ra : Addr) (α : Str → Addr) (rows : Rows) (Fs : List (Addr × HO)) (Ls : List LogR) (b : Addr) : Prop := (∀ q ∈ Fs, q.1 ≠ b) ∧ ra ≠ b ∧ (∀ p ∈ rows, α p.1 ≠ b) ∧ ∀ L ∈ Ls, b ∉ L.own
theorem EnvI.apart (E : EnvI K CL TT a ra α rows H Fs Ls) {b : Addr} (hb : H b = none) : Apart a ra α rows Fs Ls b := by
  refine ⟨fun q hq => (ne_none (E.fs q hq).1 hb).symm, (ne_none E.rw.dict hb).symm, fun p hp => ?_, fun L hL z => ?_⟩
  · obtain ⟨xs, h, _⟩ := E.rw.row p hp
    exact (ne_none h hb).symm
  · obtain ⟨u, hu⟩ := (E.logs L hL).1.there z
    rw [hb] at hu
    cases hu
theorem EnvI.step {nt : Bool} {ls : List Addr} (E : EnvI K CL TT a ra α rows H Fs Ls) (s : StepB nt ls H H') (hls : ∀ b ∈ ls, b = a ∨ Apart a ra α rows Fs Ls b) (we : WellAt H' a) (tb : LamX.Tabs TT H') : EnvI K CL TT a ra α rows H' Fs Ls := by
  have n1 : ∀ q ∈ Fs, q.1 ∉ ls := fun q hq z => (hls _ z).elim (E.fs q hq).2.2.2 fun h => h.1 q hq rfl
  refine ⟨we, fun q hq => ⟨s.oth _ _ (n1 q hq) (E.fs q hq).2.1 (E.fs q hq).1, (E.fs q hq).2⟩, E.nd, E.rw.step s (fun z => (hls _ z).elim E.rwa.1 fun h => h.2.1 rfl) (fun p hp z => (hls _ z).elim (E.rwa.2 p hp) fun h => h.2.2.1 p hp rfl), E.rwa, E.apr, fun L hL => ?_, tb⟩
  obtain ⟨h1, h2, h3⟩ := E.logs L hL
  exact ⟨h1.step s fun b hb z => (hls b hb).elim (fun e => h2 (e ▸ z)) fun h => h.2.2.2 L hL z, h2, h3⟩
theorem EnvI.tabsT {ls : List Addr} (E : EnvI K CL TT a ra α rows H Fs Ls) (s : Step ls H H') (hls : ∀ b ∈ ls, b = a ∨ H b = none ∨ ∃ u, H b = some u ∧ ∀ F, u ≠ .ext F) : LamX.Tabs TT H' := tabs_step E.tabs s fun b hb q z => by
  rcases hls b hb with rfl | h | ⟨u, h, hu⟩
  · obtain ⟨x, y, w⟩ := E.we
    rw [w] at z
    cases z
  · rw [h] at z
    cases z
  · rw [h] at z
    exact hu _ (Option.some.inj z)
theorem EnvI.same (E : EnvI K CL TT a ra α rows H Fs Ls) (s : Same H H') : EnvI K CL TT a ra α rows H' Fs Ls := E.step (nt := true) (ls := []) (.of s) (by simp) (E.we.same s) (E.tabs.ext s)
theorem EnvI.well (E : EnvI K CL TT a ra α rows H Fs Ls) (s : Step [a] H H') (w : WellAt H' a) : EnvI K CL TT a ra α rows H' Fs Ls := E.step s (by simp) w (E.tabsT s (by simp))
theorem EnvI.draw (E : EnvI K CL TT a ra α rows H Fs Ls) (n k : Int) : EnvI K CL TT a ra α rows (upd H a (.lst [.int n, .int k])) Fs Ls := let ⟨s, w⟩ := step_well E.we n k; E.well s w
theorem EnvI.still (E : EnvI K CL TT a ra α rows H Fs Ls) (s : Step [] H H') : EnvI K CL TT a ra α rows H' Fs Ls := E.step s (by simp) (let ⟨x, y, z⟩ := E.we; ⟨x, y, s.oth _ _ (by simp) rfl z⟩) (E.tabsT s (by simp))
theorem EnvI.add (E : EnvI K CL TT a ra α rows H Fs Ls) {p : Addr} {o : HO} (h : H p = some o) (h1 : tblO o = false) (h2 : ∀ F, o ≠ .ext F) (ha : p ≠ a) (hap : Apart a ra α rows Fs Ls p) : EnvI K CL TT a ra α rows H ((p, o) :: Fs) Ls := by
  refine ⟨E.we, fun q hq => ?_, List.nodup_cons.mpr ⟨fun z => ?_, E.nd⟩, E.rw, E.rwa, fun q hq => ?_, fun L hL => ?_, E.tabs⟩
  · rcases List.mem_cons.mp hq with rfl | hq
    · exact ⟨h, h1, h2, ha⟩
    · exact E.fs q hq
  · obtain ⟨q, hq, e⟩ := List.mem_map.mp z
    exact hap.1 q hq e
  · rcases List.mem_cons.mp hq with rfl | hq
    · exact ⟨hap.2.1.symm, fun p hp => (hap.2.2.1 p hp).symm⟩
    · exact E.apr q hq
  · obtain ⟨b1, b2, b3⟩ := E.logs L hL
    refine ⟨b1, b2, fun q hq => ?_⟩
    rcases List.mem_cons.mp hq with rfl | hq
    · exact hap.2.2.2 L hL
    · exact b3 q hq
theorem EnvI.nea (E : EnvI K CL TT a ra α rows H Fs Ls) {p : Addr} (hp : H p = none) : p ≠ a := fun z => by
  obtain ⟨x, y, q⟩ := E.we
  rw [z, q] at hp
  cases hp
theorem EnvI.new (E : EnvI K CL TT a ra α rows H Fs Ls) {p : Addr} (o : HO) (hp : H p = none) (h1 : tblO o = false := by rfl) (h2 : ∀ F, o ≠ .ext F := by intro _ z; cases z) : EnvI K CL TT a ra α rows (upd H p o) ((p, o) :: Fs) Ls :=
  (E.same (same_new hp)).add upd_same h1 h2 (E.nea hp) (E.apart hp)
theorem EnvI.at (E : EnvI K CL TT a ra α rows H Fs Ls) {p : Addr} {o : HO} (h : (p, o) ∈ Fs) : H p = some o := (E.fs _ h).1
theorem EnvI.mem (E : EnvI K CL TT a ra α rows H Fs Ls) (hs : Gs.Sublist Fs) : EnvI K CL TT a ra α rows H Gs Ls :=
  ⟨E.we, fun q hq => E.fs q (hs.subset hq), (hs.map _).nodup E.nd, E.rw, E.rwa, fun q hq => E.apr q (hs.subset hq), fun L hL => let ⟨b1, b2, b3⟩ := E.logs L hL; ⟨b1, b2, fun q hq => b3 q (hs.subset hq)⟩, E.tabs⟩
theorem EnvI.perm (E : EnvI K CL TT a ra α rows H Fs Ls) (hs : Gs.Perm Fs) : EnvI K CL TT a ra α rows H Gs Ls :=
  ⟨E.we, fun q hq => E.fs q (hs.mem_iff.mp hq), (hs.map _).nodup_iff.mpr E.nd, E.rw, E.rwa, fun q hq => E.apr q (hs.mem_iff.mp hq), fun L hL => let ⟨b1, b2, b3⟩ := E.logs L hL; ⟨b1, b2, fun q hq => b3 q (hs.mem_iff.mp hq)⟩, E.tabs⟩
theorem EnvI.set {p : Addr} {o : HO} (E : EnvI K CL TT a ra α rows H ((p, o) :: Fs) Ls) (o' : HO) (h0 : tupO o = false := by rfl) (h1 : tblO o' = false := by rfl) (h2 : ∀ F, o' ≠ .ext F := by intro _ z; cases z) : EnvI K CL TT a ra α rows (upd H p o') ((p, o') :: Fs) Ls := by
  obtain ⟨f1, f2, f3, f4⟩ := E.fs (p, o) List.mem_cons_self
  obtain ⟨n1, n2⟩ := List.nodup_cons.mp (show (p :: Fs.map (·.1)).Nodup from E.nd)
  have s : Step [p] H (upd H p o') := .put f1 h0 f2
  have E1 : EnvI K CL TT a ra α rows H Fs Ls := E.mem (List.sublist_cons_self _ _)
  have ap : Apart a ra α rows Fs Ls p := ⟨fun q hq z => n1 (List.mem_map.mpr ⟨q, hq, z⟩), ((E.apr (p, o) List.mem_cons_self).1).symm, fun q hq => ((E.apr (p, o) List.mem_cons_self).2 q hq).symm, fun L hL => (E.logs L hL).2.2 (p, o) List.mem_cons_self⟩
  refine (E1.step s (by simpa using .inr ap) ?_ (E.tabsT s (by simp; exact .inr (.inr ⟨o, f1, f3⟩)))).add upd_same h1 h2 f4 ap
  obtain ⟨x, y, z⟩ := E.we
  exact ⟨x, y, by rw [upd_ne f4.symm]; exact z⟩
theorem EnvI.log (E : EnvI K CL TT a ra α rows H Fs Ls) {L : LogR} (h : L ∈ Ls) : LogAtO K H CL L.l L.rows κ0 L.g L.own := (E.logs L h).1
/-- a log more -/
theorem EnvI.make (E : EnvI K CL TT a ra α rows H Fs Ls) {l : Addr} {srows : Rows} {g : Str → Int} {own : List Addr} {Hl : Hp} (s : Same H Hl) (hl : H l = none) (st : StepN [l] Hl H') (tb : LamX.Tabs TT H') (lg : LogAtO K H' CL l srows κ0 g own) (fr : ∀ b u, b ≠ l → Hl b = some u → tblO u = false → b ∉ own) :
    EnvI K CL TT a ra α rows H' Fs (⟨l, srows, g, own⟩ :: Ls) := by
  have ap := E.apart hl
  have nla := E.nea hl
  have E1 := (E.same s).step st (by simpa using .inr ap) (let ⟨x, y, z⟩ := E.we; ⟨x, y, st.oth _ _ (by simpa using nla.symm) rfl (s _ _ z)⟩) tb
  refine ⟨E1.we, E1.fs, E1.nd, E1.rw, E1.rwa, E1.apr, fun L hL => ?_, E1.tabs⟩
  rcases List.mem_cons.mp hL with rfl | hL
  · refine ⟨lg, ?_, fun q hq => ?_⟩
    · obtain ⟨x, y, z⟩ := E.we
      exact fr a _ nla.symm (s _ _ z) rfl
    · obtain ⟨f1, f2, _⟩ := E.fs q hq
      exact fr q.1 _ (ap.1 q hq) (s _ _ f1) f2
  · exact E1.logs L hL
theorem EnvI.drop (E : EnvI K CL TT a ra α rows H Fs Ls) (hs : ∀ L ∈ Ms, L ∈ Ls) : EnvI K CL TT a ra α rows H Fs Ms := ⟨E.we, E.fs, E.nd, E.rw, E.rwa, E.apr, fun L hL => E.logs L (hs L hL), E.tabs⟩
end
end Lg

namespace Lg
open PySem L2 TL
theorem paired_rev {α β : Type} {R : α → β → Prop} {as : List α} {bs : List β} (h : Paired R as bs) : Paired R as.reverse bs.reverse := by
  induction h with
  | nil => exact .nil
  | cons h _ ih =>
    rw [List.reverse_cons, List.reverse_cons]
    exact paired_app ih (.cons h .nil)
theorem lrow_val {α : Str → Addr} {t : Str} : ∀ {rows : Rows}, t ∈ rows.map (·.1) → valV (rows.map fun p => ((Sum.inr p.1 : Key), V.ref (α p.1))) (Sum.inr t) = some (.ref (α t))
  | [], h => by cases h
  | p :: r, h => by
    by_cases e : p.1 = t
    · subst e
      exact valV_pos rfl
    · rw [List.map_cons, valV_neg (fun z => e (Sum.inr.inj z))]
      exact lrow_val ((List.mem_cons.mp h).resolve_left fun z => e z.symm)
def isJn (e : Ev) : Bool := decide (e.w = ("join" : Str))
theorem tC_then {v : V} {σ : St} {H : Hp} {Q : VK} (h : Q v H) : tC v σ H Q := h
theorem prs_sqt {K : PySem.W.Frag} {Ha Hb : Hp} (s : Same Ha Hb) {xs : List Addr} {ys : List (Key × V)} (p : Paired (fun (t : Addr) (q : Key × V) => Ha t = some (.tup [kV q.1, q.2])) xs ys) : Paired (fun p kv => SqT K Hb p [kV kv.1, kv.2]) xs ys := by
  induction p with
  | nil => exact .nil
  | cons h _ ih => exact .cons (SqT.of (s _ _ h)) ih
theorem tbl_rev (ks : List Str) (m : Str → Int) : (tbl ks m).reverse = tbl ks.reverse m := by
  unfold tbl
  rw [List.map_reverse]
theorem tbl_len (ks : List Str) (m : Str → Int) : (tbl ks m).length = ks.length := by
  unfold tbl
  rw [List.length_map]
theorem fst_tbl (ks : List Str) (m : Str → Int) (x : Str) : fstOf (tbl ks m) x = if x ∈ ks then m x else 0 := by
  unfold fstOf
  rw [tbl_val]
  by_cases h : x ∈ ks
  · rw [if_pos h, if_pos h]
  · rw [if_neg h, if_neg h]
theorem fit_tbl {ks : List Str} {m : Str → Int} {rows : Rows} {κ : Str → Kd} (hl : ks.length ≤ 100) (h : ∀ x ∈ ks, objOf rows x ∧ (κ x = .cell ∨ κ x = .counter) ∧ 0 ≤ m x) : FirstFit (tbl ks m) ks rows κ :=
  ⟨tbl_keys ks m, hl, fun x hx => let ⟨a, b, c⟩ := h x hx; ⟨a, m x, tbl_get m hx, b.imp id fun z => ⟨z, c⟩⟩⟩
theorem rows_form {rows : Rows} (hn : (rows.map (·.1)).Nodup) : rows = (rows.map (·.1)).map fun t => (t, rowOf rows t) := by
  rw [List.map_map]
  have : rows.map id = rows.map ((fun t => (t, rowOf rows t)) ∘ fun x => x.1) := List.map_congr_left fun p hp => by
    show p = (p.1, rowOf rows p.1)
    rw [rowOf, lookup_of hn hp]
    rfl
  rw [← this, List.map_id]
theorem srows_eq {r1 r2 : Rows} (hp : r1.Perm r2) (hn : (r2.map (·.1)).Nodup) (h1 : PyProof.Rows.sortedS (r1.map (·.1)) = true) (h2 : PyProof.Rows.sortedS (r2.map (·.1)) = true) : r1 = r2 := by
  have hn1 : (r1.map (·.1)).Nodup := (hp.map _).nodup_iff.mpr hn
  have e : r1.map (·.1) = r2.map (·.1) := Srt.sorted_eq h1 h2 (hp.map _)
  rw [rows_form hn1, rows_form hn, e]
  refine List.map_congr_left fun t _ => ?_
  rw [rowOf, rowOf, lookup_perm hp hn]
theorem rws_map {K : PySem.W.Frag} {H : Hp} {t : Str} {v : V} {es : List Ev} (hv : RowAt K H v es) : ∀ {kvs : List (Key × V)} {rows : Rows}, Paired (RwsR K H) kvs rows → Paired (RwsR K H) (kvs.map fun kv => if kv.1 = (Sum.inr t : Key) then (kv.1, v) else kv) (setRow rows t es)
  | _, _, .nil => .nil
  | kv :: kvs, p :: rows, .cons h hs => by
    refine .cons ?_ (rws_map hv hs)
    dsimp only
    by_cases e : p.1 = t
    · have e1 : kv.1 = (Sum.inr t : Key) := by rw [h.1, e]
      rw [if_pos e1, if_pos e]
      exact ⟨h.1, hv⟩
    · have e1 : ¬ kv.1 = (Sum.inr t : Key) := by rw [h.1]; exact fun z => e (Sum.inr.inj z)
      rw [if_neg e1, if_neg e]
      exact h
theorem rws_put {K : PySem.W.Frag} {H : Hp} {t : Str} {v : V} {es : List Ev} (hv : RowAt K H v es) {kvs : List (Key × V)} {rows : Rows} (h : Paired (RwsR K H) kvs rows) (ht : t ∈ rows.map (·.1)) : Paired (RwsR K H) (putK kvs (Sum.inr t) v) (setRow rows t es) := by
  have e : (kvs.any fun kv => decide (kv.1 = (Sum.inr t : Key))) = true := by
    rw [valV_any]
    cases q : valV kvs (Sum.inr t : Key) with
    | some _ => rfl
    | none =>
      refine absurd ?_ (valV_not q)
      rw [rws_keys h]
      exact List.mem_map_of_mem ht
  unfold putK
  rw [if_pos e]
  exact rws_map hv h
theorem setRow_setRow (rows : Rows) (t : Str) (a b : List Ev) : setRow (setRow rows t a) t b = setRow rows t b := by
  unfold setRow
  rw [List.map_map]
  refine List.map_congr_left fun p _ => ?_
  show (if (if p.1 = t then (p.1, a) else p).1 = t then ((if p.1 = t then (p.1, a) else p).1, b) else if p.1 = t then (p.1, a) else p) = if p.1 = t then (p.1, b) else p
  by_cases h : p.1 = t
  · simp [h]
  · simp [h]
theorem cut_last (xs : List V) : cutV xs (some (-1)) none = xs.drop (xs.length - 1) := by
  unfold cutV
  rw [HT.sIx_none]
  have : HT.sIx xs.length 0 (some (-1)) = xs.length - 1 := by
    show (if (-1 : Int) < 0 then (-1 + (xs.length : Int)).toNat else min (-1 : Int).toNat xs.length) = _
    rw [if_pos (by decide)]
    omega
  rw [this, List.take_of_length_le (by rw [List.length_drop]; omega)]
theorem cut_but (xs : List V) : cutV xs none (some (-1)) = xs.dropLast := by
  unfold cutV
  rw [HT.sIx_none, List.drop_zero]
  have : HT.sIx xs.length xs.length (some (-1)) = xs.length - 1 := by
    show (if (-1 : Int) < 0 then (-1 + (xs.length : Int)).toNat else min (-1 : Int).toNat xs.length) = _
    rw [if_pos (by decide)]
    omega
  rw [this, Nat.sub_zero, List.dropLast_eq_take]
theorem paired_drop {α β : Type} {R : α → β → Prop} : ∀ {as : List α} {bs : List β} (n : Nat), Paired R as bs → Paired R (as.drop n) (bs.drop n)
  | _, _, 0, h => by simpa using h
  | _, _, n + 1, .nil => by simpa using Paired.nil
  | _, _, n + 1, .cons _ t => by simpa using paired_drop n t
theorem paired_take {α β : Type} {R : α → β → Prop} : ∀ {as : List α} {bs : List β} (n : Nat), Paired R as bs → Paired R (as.take n) (bs.take n)
  | _, _, 0, h => by simpa using Paired.nil
  | _, _, n + 1, .nil => by simpa using Paired.nil
  | _, _, n + 1, .cons h t => by simpa using Paired.cons h (paired_take n t)
abbrev endD : PyData := .tuple [.str "end", .none, .none]
theorem last_ends {es : List Ev} (h : ∀ e ∈ es, e.ok) : PyData.eqv (.list ((es.drop (es.length - 1)).map evD)) (.list [endD]) = endsB es := by
  rcases List.eq_nil_or_concat es with rfl | ⟨r, e, rfl⟩
  · simp [PyData.eqv, PyData.eqvAll, endsB]
  · rw [List.concat_eq_append] at h ⊢
    have e1 : (r ++ [e]).drop ((r ++ [e]).length - 1) = [e] := by simp
    rw [e1, ends_push]
    show PyData.eqv (.list [evD e]) (.list [endD]) = _
    rw [PyData.eqv, PyData.eqvAll, PyData.eqvAll, Bool.and_true]
    exact eqv_end (h e (by simp))
theorem end_good : GoodD endD := ⟨by decide +kernel, by simp [PyData.depth, PyData.depthAll]⟩
theorem objs_app (a b : List Ev) : objs (a ++ b) = objs a ++ objs b := by unfold objs; rw [List.filterMap_append]
theorem objs_step (es : List Ev) : objs (es ++ [evStep]) = objs es := by
  rw [objs_app]
  show _ ++ [] = _
  rw [List.append_nil]
theorem objs_drop {es : List Ev} (h : endsB es = true) : objs es.dropLast = objs es := by
  have hne : es ≠ [] := fun z => by rw [z] at h; cases h
  have hsp : es.dropLast ++ [es.getLast hne] = es := List.dropLast_concat_getLast hne
  have hlast : (es.getLast hne).w = "end" := by
    unfold endsB at h
    rw [List.getLast?_eq_some_getLast hne] at h
    exact eq_of_beq h
  conv => rhs; rw [← hsp, objs_app]
  have : objs [es.getLast hne] = [] := by
    unfold objs
    rw [List.filterMap_cons, if_neg (by rw [hlast]; decide +kernel)]
    rfl
  rw [this, List.append_nil]
section
variable {K : PySem.W.Frag} {CL : Addr} {TT : List (Addr × Str)} {a ra : Addr} {α : Str → Addr} {rows : Rows} {H : Hp} {Fs : List (Addr × HO)} {Ls : List LogR}
/-- a log is made -/
theorem mk_log (E : EnvI K CL TT a ra α rows H Fs Ls) {ga fi : Addr} {rows' : Rows} {fv : List (Key × V)} {ks : List Str} {X : XK} (hr : RowsAt K H ga rows') (hg : Good rows' κ0) (hf : H fi = some (.dK fv)) (hff : FirstFit fv ks rows' κ0) {R : Addr → Hp → Prop}
    (k : ∀ l H' srows own, EnvI K CL TT a ra α rows H' Fs (⟨l, srows, fstOf fv, own⟩ :: Ls) → srows.Perm rows' → (∀ b u, H b = some u → tblO u = false → H' b = some u) → R l H') :
    ∀ x dx, H x = none → H dx = none → dx ≠ x → spLI K CL TT [.ref x, .ref ga, .ref fi] (upd (upd H dx (.own x)) x (.ins CL dx [])) (fun v H' => v = .non ∧ R x H') X := by
  intro l dx hl hdx ne
  have s1 : Same H (upd (upd H dx (.own l)) l (.ins CL dx [])) := (same_new hdx).trans (same_new (by rw [upd_ne ne.symm]; exact hl))
  have l1 : (upd (upd H dx (.own l)) l (.ins CL dx [])) l = some (.ins CL dx []) := upd_same
  generalize upd (upd H dx (.own l)) l (.ins CL dx []) = H1 at s1 l1 ⊢
  refine ⟨l, dx, ga, fi, rows', κ0, fv, ks, rfl, l1, hr.step (nt := true) (l := []) (.of s1) (by simp) (by simp), hg, s1 _ _ hf, hff, E.tabs.ext s1, fun H' srows own st tb pm lg fr => ⟨rfl, ?_⟩⟩
  exact k l H' srows own (E.make s1 hl st tb lg fr) pm fun b u e ht => st.oth _ _ (by simpa using (ne_none e hl).symm) ht (s1 _ _ e)
/-- two logs are compared -/
theorem cmp_log {L : LogR} {y : V} {r : Bool} {g : Bool → Bool} {Q : VK} (E : EnvI K CL TT a ra α rows H Fs Ls) (hL : L ∈ Ls) (hR : OwE.RHS CL y H) (hc : EqCase K H CL L.rows κ0 L.g y r) (q : Q (.bl (g r)) H) : OwE.rOwn CL (spLEq K CL) g (.ref L.l) y H Q := by
  have lg := (E.log hL).log
  obtain ⟨dx, ra', na, kd, fo, fi, ce, he, rs, ins, _⟩ := lg.ex
  exact ⟨L.l, dx, _, rfl, ins, hR, L.l, y, L.rows, κ0, L.g, r, rfl, lg, hc, r, rfl, q⟩
theorem rhs_log {L : LogR} (E : EnvI K CL TT a ra α rows H Fs Ls) (hL : L ∈ Ls) : OwE.RHS CL (.ref L.l) H := by
  obtain ⟨dx, ra', na, kd, fo, fi, ce, he, rs, ins, _⟩ := ((E.log hL).log).ex
  exact .inl ⟨L.l, dx, _, rfl, ins⟩
end
/-! ### things that are no events -/
def OddOk (K : PySem.W.Frag) (H : Hp) (rows : Rows) (v : V) : Prop := Odd K H rows v ∧ ∃ d, Dp K H v d ∧ GoodD d
theorem good_flat {ds : List PyData} (h : ds.all (fun d => match d with | .str x => PyData.strOk x | .int _ => true | .bool _ => true | .none => true | _ => false) = true) : GoodD (.tuple ds) ∧ GoodD (.list ds) := by
  have key : PyData.canLayAll0 ds = true ∧ PyData.depthAll ds ≤ 1 := by
    induction ds with
    | nil => exact ⟨by simp [PyData.canLayAll0], by simp [PyData.depthAll]⟩
    | cons d r ih =>
      rw [List.all_cons] at h
      obtain ⟨h1, h2⟩ := Bool.and_eq_true_iff.mp h
      obtain ⟨a, b⟩ := ih h2
      cases d with
      | str x => exact ⟨by simp [PyData.canLayAll0, PyData.canLay0, a]; exact h1, by simp [PyData.depthAll, PyData.depth]; omega⟩
      | int i => exact ⟨by simp [PyData.canLayAll0, PyData.canLay0, a], by simp [PyData.depthAll, PyData.depth]; omega⟩
      | bool i => exact ⟨by simp [PyData.canLayAll0, PyData.canLay0, a], by simp [PyData.depthAll, PyData.depth]; omega⟩
      | none => exact ⟨by simp [PyData.canLayAll0, PyData.canLay0, a], by simp [PyData.depthAll, PyData.depth]; omega⟩
      | _ => cases h1
  exact ⟨⟨by simp [PyData.canLay0, key.1], by simp [PyData.depth]; omega⟩, ⟨by simp [PyData.canLay0, key.1], by simp [PyData.depth]; omega⟩⟩
theorem odd_place {K : PySem.W.Frag} {H : Hp} {rows : Rows} {o : Addr} {t : Str} {i : Int} {es : List Ev} (h : H o = some (.tup [.str t, .int i])) (hl : rows.lookup t = some es) (hi : ¬ (0 ≤ i ∧ i < es.length)) (hs : PyData.strOk t = true) : OddOk K H rows (.ref o) :=
  ⟨.place (SqT.of h) hl hi, _, .tup (SqT.of h) (.cons (.str _) (.cons (.int _) .nil)), (good_flat (by simp [hs])).1⟩
theorem odd_name {K : PySem.W.Frag} {H : Hp} {rows : Rows} {o : Addr} {t : Str} {i : Int} (h : H o = some (.tup [.str t, .int i])) (hl : t ∉ rows.map (·.1)) (hs : PyData.strOk t = true) : OddOk K H rows (.ref o) :=
  ⟨.name (SqT.of h) hl, _, .tup (SqT.of h) (.cons (.str _) (.cons (.int _) .nil)), (good_flat (by simp [hs])).1⟩
theorem odd_list {K : PySem.W.Frag} {H : Hp} {rows : Rows} {o : Addr} {t : Str} {i : Int} (h : H o = some (.lst [.str t, .int i])) (hs : PyData.strOk t = true) : OddOk K H rows (.ref o) :=
  ⟨.ty (.base (.lst h)) (by decide) (by decide), _, .lst (SqL.of h) (.cons (.str _) (.cons (.int _) .nil)), (good_flat (by simp [hs])).2⟩
theorem odd_one {K : PySem.W.Frag} {H : Hp} {rows : Rows} {o : Addr} {t : Str} (h : H o = some (.tup [.str t])) (hs : PyData.strOk t = true) : OddOk K H rows (.ref o) :=
  ⟨.len (SqT.of h) (by show 1 ≠ 2; decide), _, .tup (SqT.of h) (.cons (.str _) .nil), (good_flat (by simp [hs])).1⟩
theorem odd_str {K : PySem.W.Frag} {H : Hp} {rows : Rows} {t : Str} (hs : PyData.strOk t = true) : OddOk K H rows (.str t) := ⟨.ty (ty_str t) (by decide) (by decide), _, .str _, good_str hs⟩
theorem odd_non {K : PySem.W.Frag} {H : Hp} {rows : Rows} : OddOk K H rows .non := ⟨.ty (.base .non) (by decide) (by decide), _, .non, good_non⟩
theorem odd_true {K : PySem.W.Frag} {H : Hp} {rows : Rows} {o : Addr} {t : Str} (h : H o = some (.tup [.str t, .bl true])) (hs : PyData.strOk t = true) : OddOk K H rows (.ref o) :=
  ⟨.snd (SqT.of h) (.base (.bl _)) (by decide) (by decide), _, .tup (SqT.of h) (.cons (.str _) (.cons (.bl _) .nil)), (good_flat (by simp [hs])).1⟩
theorem odd_turn {K : PySem.W.Frag} {H : Hp} {rows : Rows} {o : Addr} {t : Str} (h : H o = some (.tup [.int 0, .str t])) (hs : PyData.strOk t = true) : OddOk K H rows (.ref o) :=
  ⟨.fst (SqT.of h) (.base (.int _)) (by decide) (by decide), _, .tup (SqT.of h) (.cons (.int _) (.cons (.str _) .nil)), (good_flat (by simp [hs])).1⟩
end Lg

namespace Lg
open PySem L2 TL
section
variable {P : Program} {w : World} {K : PySem.W.Frag} {mg : Str → Option Value} {base : Heap} {f : Addr} {fd : FuncData} {CL : Addr} {TT : List (Addr × Str)}
abbrev s_law : Stmt := top 39
theorem sc_law : FnScope ["_law_script", "_law_words_here", "_law_cell", "_law_well_here", "_law_rows", "_law_first", "_law_run", "_law_given", "_law_log", "_law_some", "_law_same", "_law_name", "_law_longer", "_law_is_joined", "_law_odd", "_law_thing", "_law_event_here"] ["_law_script"] (defScope s_law) := ⟨rfl, rfl, rfl, by decide +kernel, rfl, by decide +kernel, by decide +kernel⟩
def spLaw (K : PySem.W.Frag) (TT : List (Addr × Str)) : Sp := fun vs H Q _ => ∃ (sa : Addr) (ns : List Int), vs = [.ref sa] ∧ SqL K H sa (ns.map V.int) ∧ LamX.Tabs TT H ∧ ∀ H', Q (.bl true) H'
theorem ok_law {fE : Addr} {fdE : FuncData} (F : Fun K "law" "law" s_law f fd) (T : Gb K mg) (TL : LogC K CL) (TE : OwE.EqC K CL fE) (mEq : CalM P w K mg base CX0 1 CL "__eq__" fE fdE ["self", "other"] (spLEq K CL))
    (cWords : C0 P w K mg base 1 "_law_words" [] spWords) (cWell : C0 P w K mg base 1 "_law_well" ["_law_cell"] spWell) (cDraw : C0 P w K mg base 1 "_law_draw" ["_law_well_here", "_law_many"] spDraw) (cOne : C0 P w K mg base 2 "_law_one" ["_law_well_here", "_law_some"] (spOne K))
    (cRec : C0 P w K mg base 4 "_law_record" ["_law_well_here", "_law_many", "_law_size", "_law_words_here"] (spRec K)) (cTurn : C0 P w K mg base 2 "_law_turned" ["_law_well_here", "_law_table"] (spTurn K)) (cAll : C0 P w K mg base 1 "_law_all" ["_law_rows"] (spAll K))
    (cRead : C0 P w K mg base 5 "_law_is_read" ["_law_log", "_law_rows"] (spRead K CL)) (cRef : C0 P w K mg base 5 "_law_refused" ["_law_log", "_law_thing"] (spRef K CL)) (kLog : K0 P w K mg base 6 CL "Log" ["self", "rows", "first"] (spLI K CL TT))
    (mTh : M0 P w K mg base 1 CL "threads" ["self"] (spTh K CL)) (mEvs : M0 P w K mg base 1 CL "events" ["self"] (spEvs K CL)) (mOb : M0 P w K mg base 1 CL "objects" ["self"] (spOb K CL)) : FnOk P w K mg base CX0 9 f fd ["_law_script"] (spLaw K TT) := by
  obtain ⟨_, _, cWords⟩ := cWords
  obtain ⟨_, _, cWell⟩ := cWell
  obtain ⟨_, _, cDraw⟩ := cDraw
  obtain ⟨_, _, cOne⟩ := cOne
  obtain ⟨_, _, cRec⟩ := cRec
  obtain ⟨_, _, cTurn⟩ := cTurn
  obtain ⟨_, _, cAll⟩ := cAll
  obtain ⟨_, _, cRead⟩ := cRead
  obtain ⟨_, _, cRef⟩ := cRef
  obtain ⟨_, _, kLog⟩ := kLog
  obtain ⟨_, _, mTh⟩ := mTh
  obtain ⟨_, _, mEvs⟩ := mEvs
  obtain ⟨_, _, mOb⟩ := mOb
  refine F.ok sc_law (fun vs H Q E h => ?_) (fun cdv A outer s H vs Q E hr h => ?_)
  · obtain ⟨sa, ns, rfl, _⟩ := h
    rfl
  · obtain ⟨sa, ns, rfl, hsa, hT, k⟩ := h
    have hu := hu_of hr
    refine ⟨_, pss_cons (ps_set (i := 1) sc_law.nd rfl (Or.inl rfl) (pe_call0 cWords.ok (hr.mono (by decide)) (by rfl) cWords.mg cWords.kp cWords.bd .nil pass0))
    (pss_cons (ps_for PassesOwn.never rfl (pi_list (pe_op op_cat (pe_slice sl_list (pv 0) po_none (po_some pe_int)) (pe_lst (pa_cons pe_int pa_nil)))) (pg_name (i := 2) sc_law.nd rfl (Or.inl rfl))
      (pss_cons (ps_set (i := 3) sc_law.nd rfl (Or.inr rfl) (pe_call cWell.ok (hr.mono (by decide)) (by rfl) cWell.mg cWell.kp cWell.bd .nil pass0 (pa_cons (pv 2) pa_nil)))
    (pss_cons (ps_asg (pe_call cRec.ok (hr.mono (by decide)) (by rfl) cRec.mg cRec.kp cRec.bd .nil pass0 (pa_cons (pv 3) (pa_cons (pe_op op_add pe_int (pe_call cDraw.ok (hr.mono (by decide)) (by rfl) cDraw.mg cDraw.kp cDraw.bd .nil pass0 (pa_cons (pv 3) (pa_cons pe_int pa_nil)))) (pa_cons (pe_call cDraw.ok (hr.mono (by decide)) (by rfl) cDraw.mg cDraw.kp cDraw.bd .nil pass0 (pa_cons (pv 3) (pa_cons pe_int pa_nil))) (pa_cons (pv 1) pa_nil))))) (pg_tup rfl (pgs_cons (pg_name (i := 4) sc_law.nd rfl (Or.inl rfl)) (pgs_cons (pg_name (i := 5) sc_law.nd rfl (Or.inr rfl)) (pgs_cons (pg_name (i := 6) sc_law.nd rfl (Or.inl rfl)) pgs_nil)))))
    (pss_cons (ps_set (i := 7) sc_law.nd rfl (Or.inl rfl) (pe_call cTurn.ok (hr.mono (by decide)) (by rfl) cTurn.mg cTurn.kp cTurn.bd .nil pass0 (pa_cons (pv 3) (pa_cons (pv 4) pa_nil))))
    (pss_cons (ps_set (i := 8) sc_law.nd rfl (Or.inl rfl) (pe_make kLog.M kLog.ok (hr.mono (by decide)) (by rfl) kLog.mg kLog.bd .nil pass0 (pa_cons (pv 7) (pa_cons (pe_callTy (call_dictP rfl) (by rfl) T.m_dict (by decide +kernel) (pa_cons (pe_revL (LiI.pe_listItems rfl (pv 5) (by rfl) T.m_list (by decide +kernel))) pa_nil)) pa_nil))))
    (pss_cons (ps_if (pt_not (pt_val (pe_call cRead.ok (hr.mono (by decide)) (by rfl) cRead.mg cRead.kp cRead.bd .nil pass0 (pa_cons (pv 8) (pa_cons (pv 4) pa_nil))))) (pss_one (ps_ret pe_bl)) (pss_nil))
    (pss_cons (ps_set (i := 9) sc_law.nd rfl (Or.inl rfl) (pe_callTy (call_dictP rfl) (by rfl) T.m_dict (by decide +kernel) (pa_cons (pe_lock (pe_lc (own := [("_law_name", 11)]) rfl sc_law.nd (pi_keys (pv 5)) (blkOk_by (own := [("_law_name", 11)]) (N := ["_law_script", "_law_words_here", "_law_cell", "_law_well_here", "_law_rows", "_law_first", "_law_run", "_law_given", "_law_log", "_law_some", "_law_same", "_law_name", "_law_longer", "_law_is_joined", "_law_odd", "_law_thing", "_law_event_here"]) (sc := defScope s_law) (by decide +kernel)) (fun _ _ _ _ _ => (pg_name (i := 11) sc_law.nd rfl (Or.inl rfl))) (fun _ _ _ _ _ => (pts_one (PW.pt (pw_or (pt_cmpR op_ne (pe_dget hu (pv 5) (pv 11) (fun _ _ => rfl)) pe_int (nomark _)) (pw_or1 (pt_cmpR op_eq (pe_call cDraw.ok (hr.mono (by decide)) (by rfl) cDraw.mg cDraw.kp cDraw.bd .nil pass0 (pa_cons (pv 3) (pa_cons pe_int pa_nil))) pe_int (nomark _))))))) (fun _ _ _ _ _ => (pe_tup (pa_cons (pv 11) (pa_cons (pe_dget hu (pv 5) (pv 11) (fun _ _ => rfl)) pa_nil)))))) pa_nil)))
    (pss_cons (ps_set (i := 10) sc_law.nd rfl (Or.inl rfl) (pe_make kLog.M kLog.ok (hr.mono (by decide)) (by rfl) kLog.mg kLog.bd .nil pass0 (pa_cons (pv 4) (pa_cons (pv 9) pa_nil))))
    (pss_cons (ps_if (PW.pt (pw_or (pt_cmpR (OwE.op_neO TE mEq.ok mEq.bd (hr.mono (by decide))) (pv 10) (pv 8) (nomark _)) (pw_or (pt_cmpR (OwE.op_neO TE mEq.ok mEq.bd (hr.mono (by decide))) (pv 8) (pe_make kLog.M kLog.ok (hr.mono (by decide)) (by rfl) kLog.mg kLog.bd .nil pass0 (pa_cons (pv 4) (pa_cons (pv 9) pa_nil))) (nomark _)) (pw_or (pt_cmpR (OwE.op_eqO TE mEq.ok mEq.bd (hr.mono (by decide))) (pv 8) (pv 4) (nomark _)) (pw_or1 (pt_cmpR (OwE.op_eqO TE mEq.ok mEq.bd (hr.mono (by decide))) (pv 8) pe_non (nomark _))))))) (pss_one (ps_ret pe_bl)) (pss_nil))
    (pss_cons (ps_set (i := 11) sc_law.nd rfl (Or.inl rfl) (pe_call cOne.ok (hr.mono (by decide)) (by rfl) cOne.mg cOne.kp cOne.bd .nil pass0 (pa_cons (pv 3) (pa_cons (pe_callB (call_sortedD rfl) (by rfl) T.m_sorted (by decide +kernel) (pa_cons (pv 4) pa_nil)) pa_nil))))
    (pss_cons (ps_set (i := 12) sc_law.nd rfl (Or.inl rfl) (pe_callTy call_dictD (by rfl) T.m_dict (by decide +kernel) (pa_cons (pv 4) pa_nil)))
    (pss_cons (ps_dput hu (pv 12) (pv 11) (pe_op op_cat (pe_dget hu (pv 4) (pv 11) (fun _ _ => rfl)) (pe_lst (pa_cons (pe_tup (pa_cons pe_str (pa_cons pe_non (pa_cons pe_non pa_nil)))) pa_nil))) rfl)
    (pss_cons (ps_if (pt_cmpR (op_eqD hr.units) (pe_slice sl_list (pe_dget hu (pv 4) (pv 11) (fun _ _ => rfl)) (po_some (pe_un un_neg pe_int)) po_none) (pe_lst (pa_cons (pe_tup (pa_cons pe_str (pa_cons pe_non (pa_cons pe_non pa_nil)))) pa_nil)) (nomark _)) (pss_one (ps_dput hu (pv 12) (pv 11) (pe_slice sl_list (pe_dget hu (pv 4) (pv 11) (fun _ _ => rfl)) po_none (po_some (pe_un un_neg pe_int))) rfl)) (pss_nil))
    (pss_cons (ps_set (i := 13) sc_law.nd rfl (Or.inl rfl) (pe_cmpR (op_neD hr.units) (pe_lc (own := [("_law_event_here", 16)]) rfl sc_law.nd (pi_list (pe_call cAll.ok (hr.mono (by decide)) (by rfl) cAll.mg cAll.kp cAll.bd .nil pass0 (pa_cons (pv 4) pa_nil))) (blkOk_by (own := [("_law_event_here", 16)]) (N := ["_law_script", "_law_words_here", "_law_cell", "_law_well_here", "_law_rows", "_law_first", "_law_run", "_law_given", "_law_log", "_law_some", "_law_same", "_law_name", "_law_longer", "_law_is_joined", "_law_odd", "_law_thing", "_law_event_here"]) (sc := defScope s_law) (by decide +kernel)) (fun _ _ _ _ _ => (pg_name (i := 16) sc_law.nd rfl (Or.inl rfl))) (fun _ _ _ _ _ => (pts_one (pt_cmpR op_eq (pe_ix (Kx.ixtK (K := K)) (pv 16) pe_int (fun _ _ => rfl)) pe_str (nomark _)))) (fun _ _ _ _ _ => (pv 16))) (pe_lst pa_nil) (nomark _)))
    (pss_cons (ps_if (PW.pt (pw_and (pt_not (pt_val (pv 13))) (pw_and1 (pt_cmpR (OwE.op_eqO TE mEq.ok mEq.bd (hr.mono (by decide))) (pe_make kLog.M kLog.ok (hr.mono (by decide)) (by rfl) kLog.mg kLog.bd .nil pass0 (pa_cons (pv 12) (pa_cons (pv 9) pa_nil))) (pv 8) (nomark _))))) (pss_one (ps_ret pe_bl)) (pss_nil))
    (pss_cons (ps_dput hu (pv 7) (pv 11) (pe_lst pa_nil) rfl)
    (pss_cons (ps_expr (pe_bm0 PySem.F.plainAttrs_list PySem.F.slot_list_clear PySem.F.type_list_clear mt_clear (pe_meth0 (pv 8) TL.cl mTh.me mTh.ok (hr.mono (by decide)) mTh.bd .nil pass0)))
    (pss_cons (ps_expr (pe_bm PySem.F.plainAttrs_list PySem.F.slot_list_append PySem.F.type_list_append mt_append (pe_meth0 (pv 8) TL.cl mEvs.me mEvs.ok (hr.mono (by decide)) mEvs.bd .nil pass0) (pa_cons pe_non pa_nil)))
    (pss_cons (ps_expr (pe_bm0 PySem.F.plainAttrs_list PySem.F.slot_list_clear PySem.F.type_list_clear mt_clear (pe_meth0 (pv 8) TL.cl mOb.me mOb.ok (hr.mono (by decide)) mOb.bd .nil pass0)))
    (pss_cons (ps_if (pt_not (pt_val (pe_call cRead.ok (hr.mono (by decide)) (by rfl) cRead.mg cRead.kp cRead.bd .nil pass0 (pa_cons (pv 8) (pa_cons (pv 4) pa_nil))))) (pss_one (ps_ret pe_bl)) (pss_nil))
    (pss_cons (ps_set (i := 14) sc_law.nd rfl (Or.inl rfl) (pe_lst (pa_cons (pe_tup (pa_cons (pv 11) (pa_cons (pe_callB call_len_seq (by rfl) T.m_len PySem.boot_len (pa_cons (pe_dget hu (pv 4) (pv 11) (fun _ _ => rfl)) pa_nil)) pa_nil))) (pa_cons (pe_tup (pa_cons (pv 11) (pa_cons (pe_un un_neg pe_int) pa_nil))) (pa_cons (pe_tup (pa_cons pe_str (pa_cons pe_int pa_nil))) (pa_cons (pe_lst (pa_cons (pv 11) (pa_cons pe_int pa_nil))) (pa_cons (pe_tup (pa_cons (pv 11) pa_nil)) (pa_cons (pv 11) (pa_cons pe_non (pa_cons (pe_tup (pa_cons (pv 11) (pa_cons pe_bl pa_nil))) pa_nil))))))))))
    (pss_one (ps_for PassesOwn.never rfl (pi_list (pe_op op_cat (pv 14) (pe_lst (pa_cons (pe_tup (pa_cons pe_int (pa_cons (pv 11) pa_nil))) pa_nil)))) (pg_name (i := 15) sc_law.nd rfl (Or.inl rfl))
      (pss_one (ps_if (pt_not (pt_val (pe_call cRef.ok (hr.mono (by decide)) (by rfl) cRef.mg cRef.kp cRef.bd .nil pass0 (pa_cons (pv 8) (pa_cons (pv 15) pa_nil))))) (pss_one (ps_ret pe_bl)) (pss_nil))))))))))))))))))))))))))
    (pss_one (ps_ret pe_bl))), ?_⟩
    -- the words
    refine st_asg ?_
    refine ⟨rfl, fun H1 wl s1 hwl q1 => ?_⟩
    -- the numbers
    refine ⟨_, rfl, 5, rfl, sa, _, rfl, s1.seq hsa, fun p2 hp2 => ?_⟩
    rw [cut_to (show (0 : Int) ≤ 5 by decide), ← List.map_take]
    have s2 := s1.trans (same_new (o := .lst ((ns.take (5 : Int).toNat).map V.int)) hp2)
    have q2 : (upd H1 p2 (.lst ((ns.take (5 : Int).toNat).map V.int))) p2 = some (.lst ((ns.take (5 : Int).toNat).map V.int)) := upd_same
    have w2 := same_new (o := .lst ((ns.take (5 : Int).toNat).map V.int)) hp2 _ _ q1
    generalize upd H1 p2 (.lst ((ns.take (5 : Int).toNat).map V.int)) = H2 at s2 q2 w2 ⊢
    refine ⟨by show 1 ≤ sizeLine; decide, fun p3 hp3 => ?_⟩
    have s3 := s2.trans (same_new (o := .lst [.int 0]) hp3)
    have q3 := same_new (o := .lst [.int 0]) hp3 _ _ q2
    have w3 := same_new (o := .lst [.int 0]) hp3 _ _ w2
    have r3 : (upd H2 p3 (.lst [.int 0])) p3 = some (.lst [.int 0]) := upd_same
    generalize upd H2 p3 (.lst [.int 0]) = H3 at s3 q3 w3 r3 ⊢
    have hcl : (ns.take (5 : Int).toNat).length ≤ 5 := by rw [List.length_take]; exact Nat.min_le_left _ _
    refine ⟨p2, p3, _, _, rfl, rfl, q3, r3, by rw [List.length_map]; exact Nat.le_trans (show _ ≤ 1000 by simp; omega) (by decide), fun pl hpl => ?_⟩
    obtain ⟨cells, hcells⟩ : ∃ cells : List Int, cells.map V.int = (ns.take (5 : Int).toNat).map V.int ++ [.int 0] := ⟨ns.take (5 : Int).toNat ++ [0], by simp⟩
    rw [← hcells]
    have s4 := s3.trans (same_new (o := .lst (cells.map V.int)) hpl)
    have w4 := same_new (o := .lst (cells.map V.int)) hpl _ _ w3
    have p4 : (upd H3 pl (.lst (cells.map V.int))) pl = some (.lst (cells.map V.int)) := upd_same
    have nwp : wl ≠ pl := (ne_none w3 hpl).symm
    generalize upd H3 pl (.lst (cells.map V.int)) = H4 at s4 w4 p4 ⊢
    have T4 : LamX.Tabs TT H4 := hT.ext s4
    clear hcells hcl r3 q3 w3 s3 hp3 q2 w2 s2 hp2 q1 hwl s1 s4 hpl hT hsa
    refine ⟨pl, rfl, ⟨_, SqL.of p4⟩, ?_⟩
    refine for_it (walk_list (K := K) (a := pl) (xs := cells.map V.int)) (fun i σ H' => (∃ w2 w3 w4 w5 w6 w7 w8 w9 w10 w11 w12 w13 w14 w15 w16 : Option V, σ = [some (.ref sa), some (.ref wl), w2, w3, w4, w5, w6, w7, w8, w9, w10, w11, w12, w13, w14, w15, w16]) ∧ H' wl = some (.lst (drawWords.map V.str)) ∧ H' pl = some (.lst (cells.map V.int)) ∧ LamX.Tabs TT H')
      ⟨⟨_, _, _, _, _, _, _, _, _, _, _, _, _, _, _, rfl⟩, w4, p4, T4⟩ (fun i σ H' _ q => SqL.of q.2.2.1) ?_ (fun σ H' _ => k H')
    clear w4 p4 T4 H4
    rintro i x σ H5 H6 hi ⟨⟨w2, w3, w4, w5, w6, w7, w8, w9, w10, w11, w12, w13, w14, w15, w16, rfl⟩, hwl, hpl, hT⟩ ⟨rfl, hx⟩
    rw [List.getElem?_map] at hx
    obtain ⟨c, _, rfl⟩ := Option.map_eq_some_iff.mp hx
    clear hx hi
    -- the well
    refine st_asg ?_
    refine ⟨_, rfl, c, rfl, fun a ha => ?_⟩
    have we : WellAt (upd H6 a (.lst [.int c, .int 0])) a := ⟨_, _, upd_same⟩
    have wl1 := same_new (o := .lst [.int c, .int 0]) ha _ _ hwl
    have pl1 := same_new (o := .lst [.int c, .int 0]) ha _ _ hpl
    have T1 : LamX.Tabs TT (upd H6 a (.lst [.int c, .int 0])) := hT.ext (same_new ha)
    have nwa : wl ≠ a := (ne_none hwl ha).symm
    have npa : pl ≠ a := (ne_none hpl ha).symm
    generalize upd H6 a (.lst [.int c, .int 0]) = H1 at we wl1 pl1 T1 ⊢
    clear ha hwl hpl hT
    have tst : ∀ {Ha Hb : Hp}, WellAt Ha a → LamX.Tabs TT Ha → Step [a] Ha Hb → LamX.Tabs TT Hb := fun w t s => tabs_step t s fun b hb q z => by
      obtain ⟨x, y, e⟩ := w
      rw [List.mem_singleton.mp hb, e] at z
      cases z
    -- rows, first, run
    refine st_asgG ?_
    refine ⟨_, rfl, _, rfl, a, 5, rfl, we, by decide, by decide, fun d1 n1 k1 d10 d11 => ⟨_, _, rfl, rfl, ?_⟩⟩
    obtain ⟨t2, we2⟩ := step_well we n1 k1
    have T2 := tst we T1 t2
    have wl2 := t2.oth _ _ (by simpa using nwa) rfl wl1
    have pl2 := t2.oth _ _ (by simpa using npa) rfl pl1
    generalize upd H1 a (.lst [.int n1, .int k1]) = H2 at t2 we2 T2 wl2 pl2 ⊢
    refine ⟨_, rfl, a, 25, rfl, we2, by decide, by decide, fun d2 n2 k2 d20 d21 => ?_⟩
    obtain ⟨t3, we3⟩ := step_well we2 n2 k2
    have T3 := tst we2 T2 t3
    have wl3 := t3.oth _ _ (by simpa using nwa) rfl wl2
    have pl3 := t3.oth _ _ (by simpa using npa) rfl pl2
    generalize upd H2 a (.lst [.int n2, .int k2]) = H3 at t3 we3 T3 wl3 pl3 ⊢
    refine ⟨_, rfl, a, wl, 1 + d1, d2, drawWords, rfl, we3, SqL.of wl3, nwa, by decide, by decide, fun x hx => hx, by omega, by omega, by omega, by omega, fun H4 tp ra be ru rows α ks mm run t4 we4 htp LR g hfl hthr hra hα hbe hbr qbe hknd hkl hkk hru => ?_⟩
    have T4 := tst we3 T3 t4
    have wl4 := t4.oth _ _ (by simpa using nwa) rfl wl3
    have pl4 := t4.oth _ _ (by simpa using npa) rfl pl3
    refine ⟨tp, _, rfl, SqT.of htp, rfl, _, _, rfl, _, _, rfl, _, _, rfl, rfl, ?_⟩
    have E : EnvI K CL TT a ra α rows H4 [(be, .dK (tbl ks mm)), (wl, .lst (drawWords.map V.str)), (pl, .lst (cells.map V.int))] [] := by
      obtain ⟨x3, y3, z3⟩ := we3
      refine ⟨we4, fun q hq => ?_, ?_, LR, ⟨ne_none z3 hra, fun p hp => ne_none z3 (hα p hp)⟩, fun q hq => ?_, (fun L hL => nomatch hL), T4⟩
      · simp only [List.mem_cons, List.mem_nil_iff, or_false] at hq
        rcases hq with rfl | rfl | rfl
        · exact ⟨qbe, rfl, (by intro _ z; cases z), ne_none z3 hbe⟩
        · exact ⟨wl4, rfl, (by intro _ z; cases z), nwa⟩
        · exact ⟨pl4, rfl, (by intro _ z; cases z), npa⟩
      · simp [ne_none wl3 hbe, ne_none pl3 hbe, nwp]
      · simp only [List.mem_cons, List.mem_nil_iff, or_false] at hq
        rcases hq with rfl | rfl | rfl
        · exact ⟨hbr, fun p hp => by obtain ⟨xs, h, _⟩ := LR.row p hp; exact ne_kind qbe h (by intro z; cases z)⟩
        · exact ⟨(ne_none wl3 hra).symm, fun p hp => (ne_none wl3 (hα p hp)).symm⟩
        · exact ⟨(ne_none pl3 hra).symm, fun p hp => (ne_none pl3 (hα p hp)).symm⟩
    clear T1 T2 T3 T4 wl1 wl2 wl3 wl4 pl1 pl2 pl3 pl4 we we2 we3 we4 t2 t3 t4 tst htp hru qbe hbe hra hα hbr LR
    have nmOk : ∀ t ∈ rows.map (·.1), nameOk t = true := fun t ht => g.nm ht
    have hrl : rows.length ≤ 5 := g.many.2
    -- given
    refine st_asg ?_
    refine ⟨_, rfl, _, rfl, a, ra, rows, rfl, E.we, E.rw.rows, g.nd, nmOk, by omega, fun H5 fa rows' t5 we5 hfa pm5 rw5 => ?_⟩
    obtain ⟨kg, qg, pg⟩ := id rw5
    have E := (E.well t5 we5).add qg rfl (by intro _ z; cases z) (E.nea hfa) (E.apart hfa)
    clear t5 we5 hfa
    have gp : Good rows' κ0 := g.perm pm5
    -- log
    refine st_asg ?_
    refine ⟨_, rfl, _, rfl, be, _, rfl, E.at (show (be, HO.dK (tbl ks mm)) ∈ _ by simp), fun H6 p6 ts s6 hp6 _ _ q6 pr6 => ⟨p6, _, rfl, SqL.of q6, fun p7 hp7 => ?_⟩⟩
    have s6 : Same H5 H6 := s6
    have s7 := same_new (o := .lst (ts.map V.ref).reverse) hp7
    have q7 : (upd H6 p7 (.lst (ts.map V.ref).reverse)) p7 = some (.lst (ts.reverse.map V.ref)) := by rw [upd_same, List.map_reverse]
    generalize upd H6 p7 (.lst (ts.map V.ref).reverse) = H7 at s7 q7 ⊢
    refine ⟨p7, ts.reverse, tbl ks.reverse mm, rfl, SqL.of q7, ?_, fun p8 hp8 => ?_⟩
    · rw [← tbl_rev]
      exact paired_rev (prs_sqt s7 pr6)
    have hrnd : ks.reverse.Nodup := (List.reverse_perm ks).nodup_iff.mpr hknd
    rw [mergeK_nd (tbl_nd hrnd)]
    have s57 := s6.trans s7
    have E := E.same s57
    have rw7 := rw5.step (nt := true) (l := []) (.of s57) (by simp) (by simp)
    have E := E.new (.dK (tbl ks.reverse mm)) hp8
    have rw8 := rw7.step (nt := true) (l := []) (StepB.new (o := .dK (tbl ks.reverse mm)) hp8) (by simp) (by simp)
    generalize upd H7 p8 (.dK (tbl ks.reverse mm)) = H8 at E rw8 ⊢
    clear rw5 rw7 s6 s7 s57 q6 q7 hp6 hp7 hp8 pr6
    have q8 : H8 p8 = some (.dK (tbl ks.reverse mm)) := E.at List.mem_cons_self
    refine mk_log E rw8 gp q8 (fit_tbl (by rw [List.length_reverse]; omega) fun x hx => ?_) fun l H9 srows own E pm9 _ => ?_
    · obtain ⟨b1, b2, b3⟩ := hkk x (List.mem_reverse.mp hx)
      exact ⟨(objOf_perm pm5 x).mpr b1, b2, b3⟩
    have pms : srows.Perm rows := pm9.trans pm5
    have E := E.mem (List.sublist_cons_self _ _)
    clear q8 rw8 pm9 gp
    -- is_read
    refine st_if ?_
    refine ⟨_, rfl, _, rfl, l, ra, rows, srows, κ0, _, own, rfl, E.log List.mem_cons_self, E.rw.rows, pms, fun H10 t10 => ⟨true, rfl, iteF ?_⟩⟩
    have E := E.still t10
    refine st_nx ?_
    dsimp only
    clear t10
    -- some
    refine st_asg ?_
    have E := E.perm (Gs := [(be, .dK (tbl ks mm)), (fa, .dK kg), (wl, .lst (drawWords.map V.str)), (pl, .lst (cells.map V.int))]) (List.Perm.swap _ _ _)
    refine ⟨be, _, E.at List.mem_cons_self, trivial, fun od => ?_⟩
    have E := E.set (.frz od (.dK (tbl ks mm)))
    generalize upd H10 be (.frz od (.dK (tbl ks mm))) = H11 at E ⊢
    refine ⟨_, rfl, be, od, rfl, .inl ⟨_, E.at List.mem_cons_self, fun D hD => ?_⟩⟩
    have naD : D ≠ a := E.nea hD
    have E0' := E
    refine lc_it (walk_keys (d := be) (o := od) (kvs := tbl ks mm)) (fun i H' => EnvI K CL TT a ra α rows H' [(be, .frz od (.dK (tbl ks mm))), (fa, .dK kg), (wl, .lst (drawWords.map V.str)), (pl, .lst (cells.map V.int))] [⟨l, srows, fstOf (tbl ks.reverse mm), own⟩] ∧ Step [a] H11 H' ∧ ∃ acc, H' D = some (.lst acc) ∧ ∃ prs : List (Addr × Str), acc = prs.map (fun r => V.ref r.1) ∧ (prs.map (·.2)).Sublist (ks.take i) ∧ (∀ x ∈ ks.take i, x ∉ prs.map (·.2) → mm x = 0) ∧ ∀ r ∈ prs, H' r.1 = some (.tup [.str r.2, .int (mm r.2)]))
      ⟨E.same (same_new hD), .of (same_new hD), [], upd_same, [], rfl, List.nil_sublist _, (fun x hx => by simp at hx), (fun r hr => nomatch hr)⟩ (fun i H' _ q => q.1.at List.mem_cons_self) ?_ ?_
    · rintro i y Ha Hb hi ⟨Ei, sti, acc, hDi, prs, rfl, e1, e2, e3⟩ ⟨rfl, key, v, hkv, rfl⟩
      unfold tbl at hkv
      rw [List.getElem?_map] at hkv
      obtain ⟨x, hxi, e⟩ := Option.map_eq_some_iff.mp hkv
      cases e
      have hxm := List.mem_of_getElem? hxi
      have hpl5 : prs.length ≤ 5 := by
        have a1 := e1.length_le
        rw [List.length_map, List.length_take] at a1
        omega
      have tk : ks.take (i + 1) = ks.take i ++ [x] := by rw [List.take_add_one, hxi]; rfl
      have keep : ∀ Hc, EnvI K CL TT a ra α rows Hc [(be, .frz od (.dK (tbl ks mm))), (fa, .dK kg), (wl, .lst (drawWords.map V.str)), (pl, .lst (cells.map V.int))] [⟨l, srows, fstOf (tbl ks.reverse mm), own⟩] → Step [a] Hb Hc →
          tTup (tCons (tVar 11) (tCons (tDGet (tVar 5) (tVar 11)) tNil)) [some (.ref sa), some (.ref wl), some (.int c), some (.ref a), some (.ref ra), some (.ref be), some (.ref ru), some (.ref fa), some (.ref l), w9, w10, some (.str x), w12, w13, w14, w15, w16] Hc
            (fun y H4 => ∃ acc, H4 D = some (.lst acc) ∧ acc.length < sizeLine ∧ (EnvI K CL TT a ra α rows (upd H4 D (.lst (acc ++ [y]))) [(be, .frz od (.dK (tbl ks mm))), (fa, .dK kg), (wl, .lst (drawWords.map V.str)), (pl, .lst (cells.map V.int))] [⟨l, srows, fstOf (tbl ks.reverse mm), own⟩] ∧ Step [a] H11 (upd H4 D (.lst (acc ++ [y]))) ∧ ∃ acc', (upd H4 D (.lst (acc ++ [y]))) D = some (.lst acc') ∧ ∃ prs : List (Addr × Str), acc' = prs.map (fun r => V.ref r.1) ∧ (prs.map (·.2)).Sublist (ks.take (i + 1)) ∧ (∀ x ∈ ks.take (i + 1), x ∉ prs.map (·.2) → mm x = 0) ∧ ∀ r ∈ prs, (upd H4 D (.lst (acc ++ [y]))) r.1 = some (.tup [.str r.2, .int (mm r.2)]))) := fun Hc Ec sc => by
        refine ⟨_, rfl, _, rfl, _, rfl, be, _, rfl, .inl ⟨_, Sum.inr x, .inr ⟨od, Ec.at List.mem_cons_self⟩, rfl, (tbl_get mm hxm).symm⟩, by show 2 ≤ sizeLine; decide, fun q hq => ?_⟩
        have sq := same_new (o := .tup [.str x, .int (mm x)]) hq
        have qq : (upd Hc q (.tup [.str x, .int (mm x)])) q = some (.tup [.str x, .int (mm x)]) := upd_same
        have Eq := Ec.same sq
        generalize upd Hc q (.tup [.str x, .int (mm x)]) = Hd at sq qq Eq ⊢
        have hDd : Hd D = some (.lst (prs.map fun r => V.ref r.1)) := sq _ _ (sc.oth _ _ (by simpa using naD) rfl hDi)
        have stD : Step [D] Hd (upd Hd D (.lst (prs.map (fun r => V.ref r.1) ++ [.ref q]))) := .put hDd rfl
        refine ⟨_, hDd, by rw [List.length_map]; exact Nat.lt_of_le_of_lt (show prs.length ≤ 1000 by omega) (by decide), ?_, ((sti.trans sc).trans (.of sq)).then stD (by simp [hD]), _, upd_same, prs ++ [(q, x)], by simp, ?_, fun z hz hzn => ?_, fun r hr => ?_⟩
        · refine Eq.step stD (by simpa using .inr (E0'.apart hD)) ?_ (Eq.tabsT stD (by simp; exact .inr (.inr ⟨_, hDd, by intro _ z; cases z⟩)))
          obtain ⟨x1, x2, x3⟩ := Eq.we
          exact ⟨x1, x2, by rw [upd_ne naD.symm]; exact x3⟩
        · rw [List.map_append, tk]
          exact e1.append (List.Sublist.refl _)
        · rw [tk] at hz
          rw [List.map_append] at hzn
          rcases List.mem_append.mp hz with h | h
          · exact e2 z h fun hh => hzn (List.mem_append_left _ hh)
          · exact absurd (List.mem_append_right _ (by simpa using h)) hzn
        · rcases List.mem_append.mp hr with hr | hr
          · exact stD.tup _ _ rfl (sq _ _ (sc.tup _ _ rfl (e3 r hr)))
          · rw [List.mem_singleton.mp hr]
            exact stD.tup _ _ rfl qq
      refine ⟨rfl, ?_⟩
      refine ⟨_, rfl, _, rfl, be, _, rfl, .inl ⟨_, Sum.inr x, .inr ⟨od, Ei.at List.mem_cons_self⟩, rfl, (tbl_get mm hxm).symm⟩, rfl, _, rfl, ?_⟩
      by_cases hx0 : mm x = 0
      · rw [decide_eq_true (show V.int (mm x) = V.int 0 by rw [hx0])]
        refine iteF ?_
        refine ⟨_, rfl, a, 2, rfl, Ei.we, by decide, by decide, fun d n' k' d0 d1 => ⟨rfl, _, rfl, ?_⟩⟩
        obtain ⟨sd, wd⟩ := step_well Ei.we n' k'
        have Ed := Ei.well sd wd
        have hDd := sd.oth D _ (by simpa using naD) rfl hDi
        have e3d : ∀ r ∈ prs, (upd Hb a (.lst [.int n', .int k'])) r.1 = some (.tup [.str r.2, .int (mm r.2)]) := fun r hr => sd.tup _ _ rfl (e3 r hr)
        refine ite2 (fun _ => keep _ Ed sd) (fun _ => ⟨Ed, sti.trans sd, _, hDd, prs, rfl, ?_, fun z hz hzn => ?_, e3d⟩)
        · rw [tk]
          exact e1.trans (List.sublist_append_left _ _)
        · rw [tk] at hz
          rcases List.mem_append.mp hz with h | h
          · exact e2 z h hzn
          · rw [List.mem_singleton.mp h]
            exact hx0
      · rw [decide_eq_false (show ¬ V.int (mm x) = V.int 0 from fun z => hx0 (V.int.inj z))]
        exact iteT (iteT (keep _ Ei (.refl _ _)))
    rintro H12 ⟨E, st12, acc, hD12, prs, rfl, e1, e2, e3⟩
    rw [tbl_len, List.take_of_length_le (Nat.le_refl _)] at e1 e2
    have f12 : H12 be = some (.frz od (.dK (tbl ks mm))) := E.at List.mem_cons_self
    refine ⟨f12, ?_⟩
    have nDb : D ≠ be := ne_none (E0'.at List.mem_cons_self) hD
    have E := E.set (.dK (tbl ks mm))
    have stb : Step [be] H12 (upd H12 be (.dK (tbl ks mm))) := .put f12 rfl
    have hD13 : (upd H12 be (.dK (tbl ks mm))) D = some (.lst ((prs.map (·.1)).map V.ref)) := by rw [upd_ne nDb, hD12, List.map_map]; rfl
    have e3' : ∀ r ∈ prs, (upd H12 be (.dK (tbl ks mm))) r.1 = some (.tup [.str r.2, .int (mm r.2)]) := fun r hr => stb.tup _ _ rfl (e3 r hr)
    generalize upd H12 be (.dK (tbl ks mm)) = H13 at E hD13 e3' stb ⊢
    obtain ⟨k2, hk2⟩ : ∃ k2, k2 = prs.map (·.2) := ⟨_, rfl⟩
    have ekv : (prs.map fun r => ((Sum.inr r.2 : Key), V.int (mm r.2))) = tbl k2 mm := by
      unfold tbl
      rw [hk2, List.map_map]
      rfl
    rw [← hk2] at e1 e2
    have hk2n : k2.Nodup := e1.nodup hknd
    have hk2l : k2.length ≤ 5 := Nat.le_trans e1.length_le hkl
    refine ⟨D, prs.map (·.1), prs.map fun r => (Sum.inr r.2, V.int (mm r.2)), rfl, SqL.of hD13, ?_, fun so hso => ?_⟩
    · clear ekv hk2 hD12 hD13 e3
      induction prs with
      | nil => exact .nil
      | cons r rs ih => exact .cons (SqT.of (e3' r List.mem_cons_self)) (ih fun x hx => e3' x (List.mem_cons_of_mem _ hx))
    rw [ekv, mergeK_nd (tbl_nd hk2n)]
    have E := E.new (.dK (tbl k2 mm)) hso
    generalize upd H13 so (.dK (tbl k2 mm)) = H14 at E ⊢
    clear hso hD13 e3' stb ekv hk2 hD12 e3 f12 nDb E0' naD hD st12
    -- same
    have sfit : ∀ {rs : Rows}, (∀ x, objOf rs x ↔ objOf rows x) → FirstFit (tbl k2 mm) k2 rs κ0 := fun h => fit_tbl (by omega) fun x hx => by
      obtain ⟨b1, b2, b3⟩ := hkk x (e1.subset hx)
      exact ⟨(h x).mpr b1, b2, b3⟩
    have gsame : ∀ x, fstOf (tbl k2 mm) x = fstOf (tbl ks.reverse mm) x := fun x => by
      rw [fst_tbl, fst_tbl]
      by_cases h1 : x ∈ ks
      · rw [if_pos (List.mem_reverse.mpr h1)]
        by_cases h2 : x ∈ k2
        · rw [if_pos h2]
        · rw [if_neg h2, e2 x h1 h2]
      · rw [if_neg fun z => h1 (e1.subset z), if_neg fun z => h1 (List.mem_reverse.mp z)]
    refine st_asg ?_
    refine ⟨_, rfl, _, rfl, mk_log E E.rw.rows g (E.at List.mem_cons_self) (sfit fun _ => Iff.rfl) fun l2 H15 srows2 own2 E pm2 _ => ?_⟩
    have es2 : srows2 = srows := srows_eq (pm2.trans pms.symm) (E.log (L := ⟨l, srows, fstOf (tbl ks.reverse mm), own⟩) (by simp)).good.nd (E.log (L := ⟨l2, srows2, fstOf (tbl k2 mm), own2⟩) (by simp)).srt (E.log (L := ⟨l, srows, fstOf (tbl ks.reverse mm), own⟩) (by simp)).srt
    subst es2
    -- the comparisons
    refine st_if ?_
    refine ⟨_, rfl, _, rfl, cmp_log (L := ⟨l2, srows2, fstOf (tbl k2 mm), own2⟩) (g := not) (r := true) E (by simp) (rhs_log E (L := ⟨l, srows2, fstOf (tbl ks.reverse mm), own⟩) (by simp)) (.same (E.log (L := ⟨l, srows2, fstOf (tbl ks.reverse mm), own⟩) (by simp)).log fun x _ _ => gsame x) ⟨false, rfl, iteF ?_⟩⟩
    refine ⟨_, rfl, _, rfl, _, rfl, mk_log E E.rw.rows g (E.at List.mem_cons_self) (sfit fun _ => Iff.rfl) fun l3 H16 srows3 own3 E pm3 _ => ?_⟩
    have es3 : srows3 = srows2 := srows_eq (pm3.trans pms.symm) (E.log (L := ⟨l, srows2, fstOf (tbl ks.reverse mm), own⟩) (by simp)).good.nd (E.log (L := ⟨l3, srows3, fstOf (tbl k2 mm), own3⟩) (by simp)).srt (E.log (L := ⟨l, srows2, fstOf (tbl ks.reverse mm), own⟩) (by simp)).srt
    subst es3
    refine cmp_log (L := ⟨l, srows3, fstOf (tbl ks.reverse mm), own⟩) (g := not) (r := true) E (by simp) (rhs_log E (L := ⟨l3, srows3, fstOf (tbl k2 mm), own3⟩) (by simp)) (.same (E.log (L := ⟨l3, srows3, fstOf (tbl k2 mm), own3⟩) (by simp)).log fun x _ _ => (gsame x).symm) ⟨false, rfl, iteF ?_⟩
    refine ⟨_, rfl, _, rfl, cmp_log (L := ⟨l, srows3, fstOf (tbl ks.reverse mm), own⟩) (g := id) (r := false) E (by simp) (.inr (.inl ⟨ra, _, rfl, E.rw.dict⟩)) (.dict E.rw.dict) ⟨false, rfl, iteF ?_⟩⟩
    refine ⟨_, rfl, ?_⟩
    show tC V.non _ H16 _
    refine tC_then ?_
    refine cmp_log (L := ⟨l, srows3, fstOf (tbl ks.reverse mm), own⟩) (g := id) (r := false) E (by simp) (.inr (.inr rfl)) .non ⟨false, rfl, iteF ?_⟩
    refine st_nx ?_
    dsimp only
    have E := E.drop (Ms := [⟨l, srows3, fstOf (tbl ks.reverse mm), own⟩]) (by simp)
    obtain ⟨lg, hlg⟩ : ∃ lg : LogR, lg = ⟨l, srows3, fstOf (tbl ks.reverse mm), own⟩ := ⟨_, rfl⟩
    have ell : lg.l = l := by rw [hlg]
    have elr : lg.rows = srows3 := by rw [hlg]
    rw [← hlg] at E
    -- name
    refine st_asg ?_
    refine ⟨_, rfl, _, rfl, ra, _, rows.map (·.1), rfl, .inl E.rw.dict, by rw [List.map_map, List.map_map]; rfl, by rw [List.length_map]; omega, fun ys p17 hys _ hp17 => ?_⟩
    have np17 : p17 ≠ a := E.nea hp17
    have E := E.new (.lst (ys.map V.str)) hp17
    generalize upd H16 p17 (.lst (ys.map V.str)) = H17 at E ⊢
    have hyl : ys.length = rows.length := by rw [hys.length_eq, List.length_map]
    have hr1 : 1 ≤ rows.length := g.many.1
    refine ⟨a, p17, _, rfl, E.we, SqL.of (E.at List.mem_cons_self), np17, by rw [List.length_map]; omega, by rw [List.length_map]; omega, fun x j n' k' hx => ?_⟩
    rw [List.getElem?_map] at hx
    obtain ⟨t, hti, rfl⟩ := Option.map_eq_some_iff.mp hx
    have ht : t ∈ rows.map (·.1) := hys.mem_iff.mp (List.mem_of_getElem? hti)
    have E := (E.draw n' k').mem (List.sublist_cons_self _ _)
    generalize upd H17 a (.lst [.int n', .int k']) = H18 at E ⊢
    clear hx hti hys hyl hp17 np17
    -- longer
    refine st_asg ?_
    obtain ⟨kr, hkr⟩ : ∃ kr, kr = rows.map fun p => ((Sum.inr p.1 : Key), V.ref (α p.1)) := ⟨_, rfl⟩
    have krd : H18 ra = some (.dK kr) := by rw [hkr]; exact E.rw.dict
    have krl : kr.length ≤ 5 := by rw [hkr, List.length_map]; exact hrl
    refine ⟨_, rfl, ra, _, rfl, .inl krd, fun pb hpb => ?_⟩
    have E := E.new (.dK kr) hpb
    generalize upd H18 pb (.dK kr) = H19 at E ⊢
    clear hpb krd
    have krv : valV kr (Sum.inr t) = some (.ref (α t)) := by
      rw [hkr]
      exact lrow_val ht
    have rdict : ∀ {H' : Hp} {Fs : List (Addr × HO)} {Ls : List LogR}, EnvI K CL TT a ra α rows H' Fs Ls → DGet H' ra (.str t) (some (.ref (α t))) := fun E => by
      rw [← krv]
      exact DGet.k (k := Sum.inr t) (by rw [hkr]; exact E.rw.dict)
    obtain ⟨es, hes⟩ := lookup_mem ht
    have hmem := lookup_pair hes
    have eres : rowOf rows t = es := by unfold rowOf; rw [hes]; rfl
    have hesl : es.length ≤ 40 := g.rlen hmem
    have heok : ∀ e ∈ es, e.ok := g.oks hmem
    -- longer[name] = rows[name] + [step]
    refine st_dput ?_
    obtain ⟨xs, x1, x2⟩ := E.rw.row _ hmem
    have x1 : H19 (α t) = some (.lst xs) := x1
    have x2 : Paired (EvAt K H19) xs es := x2
    have hxl : xs.length = es.length := Paired.length x2
    refine ⟨_, rfl, _, rfl, ra, _, rfl, rdict E, by show 3 ≤ sizeLine; decide, fun q hq => ⟨by show 1 ≤ sizeLine; decide, fun b hb => ?_⟩⟩
    have s20 := same_new (o := .tup [.str "step", .non, .non]) hq
    have q20 : (upd H19 q (.tup [.str "step", .non, .non])) q = some (.tup [.str "step", .non, .non]) := upd_same
    generalize upd H19 q (.tup [.str "step", .non, .non]) = H20 at s20 q20 hb ⊢
    have s21 := same_new (o := .lst [.ref q]) hb
    have b21 : (upd H20 b (.lst [.ref q])) b = some (.lst [.ref q]) := upd_same
    generalize upd H20 b (.lst [.ref q]) = H21 at s21 b21 ⊢
    have s1921 := s20.trans s21
    refine ⟨α t, b, xs, [.ref q], rfl, rfl, s1921 _ _ x1, b21, Nat.le_trans (show _ ≤ 1000 by simp; omega) (by decide), fun p22 hp22 => ?_⟩
    have s22 := s1921.trans (same_new (o := .lst (xs ++ [.ref q])) hp22)
    have q22 : (upd H21 p22 (.lst (xs ++ [.ref q]))) p22 = some (.lst (xs ++ [.ref q])) := upd_same
    have t22 : SqT K (upd H21 p22 (.lst (xs ++ [.ref q]))) q [.str "step", .non, .non] := SqT.of (same_new hp22 _ _ (s21 _ _ q20))
    generalize upd H21 p22 (.lst (xs ++ [.ref q])) = H22 at s22 q22 t22 ⊢
    have E := E.same s22
    have ra22 : RowAt K H22 (.ref p22) (es ++ [evStep]) := ⟨p22, _, rfl, .inl (SqL.of q22), paired_push (evs_same s22 x2) ⟨q, .non, rfl, t22, rfl⟩⟩
    have qb : H22 pb = some (.dK kr) := E.at List.mem_cons_self
    have prk : ∀ {H' : Hp} {Fs : List (Addr × HO)} {Ls : List LogR}, EnvI K CL TT a ra α rows H' Fs Ls → Paired (RwsR K H') kr rows := fun E => by
      obtain ⟨kv, h1, h2⟩ := E.rw.rows
      have h3 := E.rw.dict
      rw [h1, ← hkr] at h3
      cases h3
      exact h2
    refine ⟨_, rfl, _, rfl, pb, _, rfl, DPut.k (k := Sum.inr t) qb (Nat.lt_of_le_of_lt (show kr.length ≤ 1000 by omega) (by decide)), ?_⟩
    have p22' := rws_put ra22 (prk E) ht
    have st23 : Step [pb] H22 (upd H22 pb (.dK (putK kr (Sum.inr t) (.ref p22)))) := .put qb rfl
    have E := E.set (.dK (putK kr (Sum.inr t) (.ref p22)))
    have p23 := rws_step st23 (by simpa using nol_dK qb) p22'
    generalize upd H22 pb (.dK (putK kr (Sum.inr t) (.ref p22))) = H23 at E p23 ⊢
    have hpl23 : (putK kr (Sum.inr t) (.ref p22)).length ≤ 6 := Nat.le_trans (length_putK _ _ _) (by omega)
    generalize putK kr (Sum.inr t) (.ref p22) = k23 at E p23 hpl23
    clear st23 p22' qb ra22 t22 q22 s22 hp22 s1921 b21 s21 q20 s20 hb hq x1 x2 hxl
    -- if it ends
    refine st_ifJ (fun σ' H' => σ' = [some (.ref sa), some (.ref wl), some (.int c), some (.ref a), some (.ref ra), some (.ref be), some (.ref ru), some (.ref fa), some (.ref l), some (.ref so), some (.ref l2), some (.str t), some (.ref pb), w13, w14, w15, w16] ∧
        EnvI K CL TT a ra α rows H' [(so, .dK (tbl k2 mm)), (be, .dK (tbl ks mm)), (fa, .dK kg), (wl, .lst (drawWords.map V.str)), (pl, .lst (cells.map V.int))] [lg] ∧ ∃ es', RowsAt K H' pb (setRow rows t es') ∧ (es' = es ++ [evStep] ∧ endsB es = false ∨ es' = es.dropLast ∧ endsB es = true)) (fun R hR => ?_) ?_
    · obtain ⟨xs, x1, x2⟩ := E.rw.row _ hmem
      have x1 : H23 (α t) = some (.lst xs) := x1
      have x2 : Paired (EvAt K H23) xs es := x2
      have hxl : xs.length = es.length := Paired.length x2
      refine ⟨_, rfl, _, rfl, ra, _, rfl, rdict E, 1, rfl, -1, rfl, α t, xs, rfl, SqL.of x1, fun p24 hp24 => ?_⟩
      rw [cut_last]
      have s24 := same_new (o := .lst (xs.drop (xs.length - 1))) hp24
      have q24 : (upd H23 p24 (.lst (xs.drop (xs.length - 1)))) p24 = some (.lst (xs.drop (xs.length - 1))) := upd_same
      generalize upd H23 p24 (.lst (xs.drop (xs.length - 1))) = H24 at s24 q24 ⊢
      refine ⟨by show 3 ≤ sizeLine; decide, fun q hq => ⟨by show 1 ≤ sizeLine; decide, fun b hb => ?_⟩⟩
      have s25 := same_new (o := .tup [.str "end", .non, .non]) hq
      have q25 : (upd H24 q (.tup [.str "end", .non, .non])) q = some (.tup [.str "end", .non, .non]) := upd_same
      generalize upd H24 q (.tup [.str "end", .non, .non]) = H25 at s25 q25 hb ⊢
      have s26 := same_new (o := .lst [.ref q]) hb
      have b26 : (upd H25 b (.lst [.ref q])) b = some (.lst [.ref q]) := upd_same
      generalize upd H25 b (.lst [.ref q]) = H26 at s26 b26 ⊢
      have s2326 := (s24.trans s25).trans s26
      have E := E.same s2326
      have dpl : ∀ d ∈ (es.drop (es.length - 1)).map evD, GoodD d := evs_good fun e he => heok e (List.mem_of_mem_drop he)
      refine ⟨.list ((es.drop (es.length - 1)).map evD), .list [endD], .lst (SqL.of (s26 _ _ (s25 _ _ q24))) (evs_dp (by rw [hxl]; exact paired_drop _ (evs_same s2326 x2))), .lst (SqL.of b26) (.cons (.tup (SqT.of (s26 _ _ q25)) (.cons (.str _) (.cons .non (.cons .non .nil)))) .nil), shaped_list dpl, shaped_list (fun d hd => by rw [List.mem_singleton.mp hd]; exact end_good), _, rfl, ?_⟩
      rw [last_ends heok]
      have p26 := rws_step (nt := true) (l := []) (.of s2326) (by simp) p23
      cases hend : endsB es with
      | false => exact iteF (hR _ _ ⟨rfl, E.mem (List.sublist_cons_self _ _), _, ⟨_, E.at List.mem_cons_self, p26⟩, .inl ⟨rfl, hend⟩⟩)
      | true =>
        refine iteT ?_
        refine ⟨_, rfl, _, rfl, ra, _, rfl, rdict E, 1, rfl, -1, rfl, α t, xs, rfl, SqL.of (s2326 _ _ x1), fun p27 hp27 => ?_⟩
        rw [cut_but]
        have s27 := same_new (o := .lst xs.dropLast) hp27
        have q27 : (upd H26 p27 (.lst xs.dropLast)) p27 = some (.lst xs.dropLast) := upd_same
        generalize upd H26 p27 (.lst xs.dropLast) = H27 at s27 q27 ⊢
        have E := E.same s27
        have ra27 : RowAt K H27 (.ref p27) es.dropLast := by
          refine ⟨p27, _, rfl, .inl (SqL.of q27), ?_⟩
          rw [List.dropLast_eq_take, List.dropLast_eq_take, hxl]
          exact paired_take _ (evs_same (s2326.trans s27) x2)
        have qb : H27 pb = some (.dK k23) := E.at List.mem_cons_self
        refine ⟨_, rfl, _, rfl, pb, _, rfl, DPut.k (k := Sum.inr t) qb (Nat.lt_of_le_of_lt (show k23.length ≤ 1000 by omega) (by decide)), ?_⟩
        have p27' := rws_put ra27 (rws_step (nt := true) (l := []) (.of s27) (by simp) p26) (by rw [setRow_names]; exact ht)
        rw [setRow_setRow] at p27'
        have st28 : Step [pb] H27 (upd H27 pb (.dK (putK k23 (Sum.inr t) (.ref p27)))) := .put qb rfl
        have E := E.set (.dK (putK k23 (Sum.inr t) (.ref p27)))
        have p28 := rws_step st28 (by simpa using nol_dK qb) p27'
        exact hR _ _ ⟨rfl, E.mem (List.sublist_cons_self _ _), _, ⟨_, upd_same, p28⟩, .inr ⟨rfl, hend⟩⟩
    clear p23 hpl23 E
    rintro σ' H28 ⟨rfl, E, es', rwl, hes'⟩
    have hkgl : kg.length ≤ 5 := by rw [Paired.length pg, pm5.length_eq]; exact hrl
    clear pg qg
    -- is_joined
    refine st_asg ?_
    refine ⟨_, rfl, ra, rows, rfl, E.rw.rows, by omega, by omega, fun H29 pa zs s29 hpa hzs => ?_⟩
    have E := E.still s29
    have rwl := rwl.step s29 (by simp) (by simp)
    obtain ⟨ev2, hev2⟩ : ∃ ev2, ev2 = (rows.map (·.2)).flatten := ⟨_, rfl⟩
    rw [← hev2] at hzs
    have ev2ok : ∀ e ∈ ev2, e.ok := fun e he => by
      rw [hev2] at he
      obtain ⟨p, hp, hep⟩ := flat_in he
      exact g.oks hp e hep
    have ev2l : ev2.length ≤ 30 := by rw [hev2]; exact hfl
    refine ⟨pa, rfl, ⟨_, SqL.of hpa⟩, fun D hD => ?_⟩
    refine lc_it (walk_list (K := K) (a := pa) (xs := zs)) (AccP H29 D fun i acc H' => Paired (EvAt K H') acc ((ev2.take i).filter isJn)) (acc0 hD .nil) (fun i H' _ q => SqL.of (q.1 _ _ hpa)) ?_ ?_
    · rintro i y HA HB hi ⟨sA, acc, hDA, hacc⟩ ⟨rfl, hx⟩
      obtain ⟨e, he, te, ze, rfl, hte, hze⟩ := paired_at hzs hx
      have e5 : (ev2.take (i + 1)).filter isJn = (ev2.take i).filter isJn ++ (if isJn e = true then [e] else []) := by
        rw [List.take_add_one, he, List.filter_append, Option.toList_some, List.filter_cons, List.filter_nil]
      refine ⟨rfl, ?_⟩
      refine ⟨_, rfl, te, _, _, _, rfl, rfl, sqt_same sA hte, atI_nat (j := 0) rfl, rfl, _, rfl, ?_⟩
      by_cases hj : e.w = "join"
      · refine ifT (by rw [hj]) ?_
        refine ⟨_, rfl, acc_put hD sA hDA ?_ ?_⟩
        · rw [Paired.length hacc]
          refine Nat.lt_of_le_of_lt (show _ ≤ 1000 from ?_) (show 1000 < sizeLine by decide)
          refine Nat.le_trans (List.length_filter_le _ _) ?_
          rw [List.length_take]
          omega
        · have st : Step [D] HB (upd HB D (.lst (acc ++ [.ref te]))) := .put hDA rfl
          show Paired (EvAt K (upd HB D (.lst (acc ++ [.ref te])))) (acc ++ [.ref te]) ((ev2.take (i + 1)).filter isJn)
          rw [e5, if_pos (show isJn e = true from decide_eq_true hj)]
          exact paired_push (evs_step st hacc) (EvAt.step st (EvAt.same sA ⟨te, ze, rfl, hte, hze⟩))
      · refine ifF (fun z => hj (V.str.inj z)) ⟨sA, _, hDA, ?_⟩
        show Paired (EvAt K HB) acc ((ev2.take (i + 1)).filter isJn)
        rw [e5, if_neg (show ¬ isJn e = true from fun z => hj (of_decide_eq_true z)), List.append_nil]
        exact hacc
    rintro HA ⟨sA, acc, hDA, hacc⟩
    have ezl : zs.length = ev2.length := Paired.length hzs
    rw [ezl, List.take_of_length_le (Nat.le_refl _)] at hacc
    have E := E.same sA
    have rwl := rwl.step (nt := true) (l := []) (.of sA) (by simp) (by simp)
    refine ⟨by show 0 ≤ sizeLine; decide, fun q hq => ?_⟩
    have sB := same_new (o := .lst []) hq
    have qB : (upd HA q (.lst [])) q = some (.lst []) := upd_same
    generalize upd HA q (.lst []) = HB at sB qB ⊢
    have E := E.same sB
    have rwl := rwl.step (nt := true) (l := []) (.of sB) (by simp) (by simp)
    obtain ⟨js, hjs⟩ : ∃ js, js = ev2.filter isJn := ⟨_, rfl⟩
    rw [← hjs] at hacc
    have jok : ∀ d ∈ js.map evD, GoodD d := evs_good fun e he => ev2ok e (by rw [hjs] at he; exact (List.mem_filter.mp he).1)
    refine ⟨.list (js.map evD), .list [], .lst (SqL.of (sB _ _ hDA)) (evs_dp (evs_same sB hacc)), .lst (SqL.of qB) .nil, shaped_list jok, by decide +kernel, ?_⟩
    rw [eqv_nil]
    clear hacc hDA sA sB qB hq hzs hpa s29 ezl hD
    -- no log is equal
    refine st_ifJ (fun σ' H' => (∃ w13 : Option V, σ' = [some (.ref sa), some (.ref wl), some (.int c), some (.ref a), some (.ref ra), some (.ref be), some (.ref ru), some (.ref fa), some (.ref l), some (.ref so), some (.ref l2), some (.str t), some (.ref pb), w13, w14, w15, w16]) ∧
        EnvI K CL TT a ra α rows H' [(so, .dK (tbl k2 mm)), (be, .dK (tbl ks mm)), (fa, .dK kg), (wl, .lst (drawWords.map V.str)), (pl, .lst (cells.map V.int))] [lg]) (fun R hR => ?_) ?_
    · refine ⟨_, rfl, _, rfl, ?_⟩
      cases hjc : js with
      | cons j0 j1 => exact iteF (iteF (hR _ _ ⟨⟨_, rfl⟩, E⟩))
      | nil =>
        refine iteT ?_
        have hnj : ∀ p ∈ rows, ∀ e ∈ p.2, e.w ≠ "join" := fun p hp e he hw => by
          have : e ∈ js := by
            rw [hjs, hev2]
            exact List.mem_filter.mpr ⟨List.mem_flatten.mpr ⟨p.2, List.mem_map_of_mem hp, he⟩, decide_eq_true hw⟩
          rw [hjc] at this
          cases this
        have gl : Good (setRow rows t es') κ0 ∧ objs es' = objs (rowOf rows t) ∧ es'.length ≠ es.length := by
          rcases hes' with ⟨rfl, he⟩ | ⟨rfl, he⟩
          · have := g.addStep ht hnj (by omega) (by rw [eres]; exact he)
            rw [eres] at this
            exact ⟨this, by rw [eres]; exact objs_step es, by simp⟩
          · have := g.dropEnd ht hnj (by omega) (by rw [eres]; exact he)
            rw [eres] at this
            refine ⟨this, by rw [eres]; exact objs_drop he, ?_⟩
            have hne : es ≠ [] := fun z => by rw [z] at he; cases he
            have := List.length_pos_iff.mpr hne
            rw [List.length_dropLast]
            omega
        refine ⟨_, rfl, _, rfl, mk_log E rwl gl.1 (E.at List.mem_cons_self) (sfit fun x => setRow_obj g.nd ht gl.2.1 x) fun l4 H30 srows4 own4 E pm4 _ => ?_⟩
        refine ⟨_, rfl, ?_⟩
        have hm4 : lg ∈ (⟨l4, srows4, fstOf (tbl k2 mm), own4⟩ :: [lg] : List LogR) := by simp
        rw [← ell]
        refine cmp_log (L := ⟨l4, srows4, fstOf (tbl k2 mm), own4⟩) (g := id) (r := false) E (by simp) (rhs_log E hm4) (.other (t := t) (es := es') (es' := es) (E.log hm4).log ?_ ?_ gl.2.2) ⟨false, rfl, iteF (hR _ _ ⟨⟨_, by rw [ell]; rfl⟩, E.drop (by simp)⟩)⟩
        · show srows4.lookup t = some es'
          rw [lookup_perm pm4 (by rw [setRow_names]; exact g.nd), setRow_lookup, hes]
          simp
        · rw [elr, lookup_perm pms g.nd]
          exact hes
    clear E rwl
    rintro σ' H30 ⟨⟨w13, rfl⟩, E⟩
    have E := E.perm (Gs := [(fa, .dK kg), (wl, .lst (drawWords.map V.str)), (pl, .lst (cells.map V.int)), (so, .dK (tbl k2 mm)), (be, .dK (tbl ks mm))]) (List.perm_append_comm (l₁ := [(fa, HO.dK kg), (wl, .lst (drawWords.map V.str)), (pl, .lst (cells.map V.int))]) (l₂ := [(so, HO.dK (tbl k2 mm)), (be, .dK (tbl ks mm))]))
    have E := E.mem (Gs := [(fa, .dK kg), (wl, .lst (drawWords.map V.str)), (pl, .lst (cells.map V.int))]) (.cons₂ _ (.cons₂ _ (.cons₂ _ (.cons _ (.cons _ .slnil)))))
    -- given[name] = []
    refine st_dput ?_
    refine ⟨by show 0 ≤ sizeLine; decide, fun p31 hp31 => ?_⟩
    have E := E.same (same_new (o := .lst []) hp31)
    generalize upd H30 p31 (.lst []) = H31 at E ⊢
    refine ⟨_, rfl, _, rfl, fa, _, rfl, DPut.k (k := Sum.inr t) (E.at List.mem_cons_self) (Nat.lt_of_le_of_lt (show kg.length ≤ 1000 by omega) (by decide)), ?_⟩
    have E := (E.set (.dK (putK kg (Sum.inr t) (.ref p31)))).mem (List.sublist_cons_self _ _)
    generalize upd H31 fa (.dK (putK kg (Sum.inr t) (.ref p31))) = H32 at E ⊢
    clear hp31
    have mlg : lg ∈ [lg] := List.mem_cons_self
    -- threads().clear()
    refine st_drop ?_
    obtain ⟨dx, fs, ins, nt, _, _, _⟩ := (E.log mlg).inst
    rw [ell] at ins
    refine ⟨_, rfl, l, dx, fs, rfl, ins, nt, l, lg.rows, κ0, lg.g, rfl, by rw [← ell]; exact (E.log mlg).log, fun p33 hp33 => ⟨.inl ⟨rfl, _, SqL.of upd_same⟩, p33, _, rfl, rfl, upd_same, ?_⟩⟩
    have E := ((E.new (.lst ((lg.rows.map (·.1)).map V.str)) hp33).set (.lst [])).mem (List.sublist_cons_self _ _)
    generalize upd (upd H32 p33 (.lst ((lg.rows.map (·.1)).map V.str))) p33 (.lst []) = H34 at E ⊢
    clear hp33 ins nt
    -- events().append(None)
    refine st_drop ?_
    obtain ⟨dx, fs, ins, _, ne', _, _⟩ := (E.log mlg).inst
    rw [ell] at ins
    refine ⟨_, rfl, l, dx, fs, rfl, ins, ne', l, lg.rows, κ0, lg.g, rfl, by rw [← ell]; exact (E.log mlg).log, fun H35 p35 xs s35 hp35 q35 hx35 => ?_⟩
    have hxl35 : xs.length ≤ 40 := by rw [Paired.length hx35, evs_len]; exact (E.log mlg).good.size
    refine ⟨.inl ⟨rfl, _, SqL.of q35⟩, p35, xs, .non, rfl, rfl, q35, Nat.lt_of_le_of_lt (show xs.length ≤ 1000 by omega) (by decide), ?_⟩
    have E := (((E.same s35).add q35 rfl (by intro _ z; cases z) (E.nea hp35) (E.apart hp35)).set (.lst (xs ++ [.non]))).mem (List.sublist_cons_self _ _)
    generalize upd H35 p35 (.lst (xs ++ [.non])) = H36 at E ⊢
    clear hx35 q35 hp35 s35 hxl35 ins ne'
    -- objects().clear()
    refine st_drop ?_
    obtain ⟨dx, fs, ins, _, _, no', _⟩ := (E.log mlg).inst
    rw [ell] at ins
    refine ⟨_, rfl, l, dx, fs, rfl, ins, no', l, lg.rows, κ0, lg.g, rfl, by rw [← ell]; exact (E.log mlg).log, fun ys p37 _ _ _ hp37 => ⟨.inl ⟨rfl, _, SqL.of upd_same⟩, p37, _, rfl, rfl, upd_same, ?_⟩⟩
    have E := ((E.new (.lst (ys.map V.str)) hp37).set (.lst [])).mem (List.sublist_cons_self _ _)
    generalize upd (upd H36 p37 (.lst (ys.map V.str))) p37 (.lst []) = H38 at E ⊢
    clear hp37 ins no'
    -- is_read
    refine st_if ?_
    refine ⟨_, rfl, _, rfl, l, ra, rows, lg.rows, κ0, lg.g, lg.own, rfl, by rw [← ell]; exact E.log mlg, E.rw.rows, by rw [elr]; exact pms, fun H39 t39 => ⟨true, rfl, iteF ?_⟩⟩
    have E := E.still t39
    refine st_nx ?_
    dsimp only
    clear t39
    -- odd things
    have hst : PyData.strOk t = true := name_str (nmOk t ht)
    refine st_asg ?_
    obtain ⟨xs, x1, x2⟩ := E.rw.row _ hmem
    have x1 : H39 (α t) = some (.lst xs) := x1
    have hxl : xs.length = es.length := Paired.length x2
    refine ⟨_, rfl, _, rfl, _, rfl, ra, _, rfl, rdict E, α t, xs, rfl, .inl (SqL.of x1), by show 2 ≤ sizeLine; decide, fun o1 ho1 => ?_⟩
    rw [hxl]
    have E := E.new (.tup [.str t, .int (es.length : Nat)]) ho1
    generalize upd H39 o1 (.tup [.str t, .int (es.length : Nat)]) = H40 at E ⊢
    refine ⟨_, rfl, 1, rfl, by show 2 ≤ sizeLine; decide, fun o2 ho2 => ?_⟩
    have E := E.new (.tup [.str t, .int (-1)]) ho2
    generalize upd H40 o2 (.tup [.str t, .int (-1)]) = H41 at E ⊢
    refine ⟨by show 2 ≤ sizeLine; decide, fun o3 ho3 => ?_⟩
    have E := E.new (.tup [.str "zz", .int 0]) ho3
    generalize upd H41 o3 (.tup [.str "zz", .int 0]) = H42 at E ⊢
    refine ⟨_, rfl, by show 2 ≤ sizeLine; decide, fun o4 ho4 => ?_⟩
    have E := E.new (.lst [.str t, .int 0]) ho4
    generalize upd H42 o4 (.lst [.str t, .int 0]) = H43 at E ⊢
    refine ⟨_, rfl, by show 1 ≤ sizeLine; decide, fun o5 ho5 => ?_⟩
    have E := E.new (.tup [.str t]) ho5
    generalize upd H43 o5 (.tup [.str t]) = H44 at E ⊢
    refine ⟨_, rfl, _, rfl, by show 2 ≤ sizeLine; decide, fun o8 ho8 => ?_⟩
    have E := E.new (.tup [.str t, .bl true]) ho8
    generalize upd H44 o8 (.tup [.str t, .bl true]) = H45 at E ⊢
    refine ⟨by show 8 ≤ sizeLine; decide, fun po hpo => ?_⟩
    have E := E.new (.lst [.ref o1, .ref o2, .ref o3, .ref o4, .ref o5, .str t, .non, .ref o8]) hpo
    generalize upd H45 po (.lst [.ref o1, .ref o2, .ref o3, .ref o4, .ref o5, .str t, .non, .ref o8]) = H46 at E ⊢
    have qpo : H46 po = some (.lst [.ref o1, .ref o2, .ref o3, .ref o4, .ref o5, .str t, .non, .ref o8]) := E.at List.mem_cons_self
    refine ⟨_, rfl, _, rfl, by show 2 ≤ sizeLine; decide, fun o9 ho9 => ⟨by show 1 ≤ sizeLine; decide, fun ob hob => ?_⟩⟩
    have s47 := same_new (o := .tup [.int 0, .str t]) ho9
    have E := E.new (.tup [.int 0, .str t]) ho9
    generalize upd H46 o9 (.tup [.int 0, .str t]) = H47 at E s47 hob ⊢
    have s48 := same_new (o := .lst [.ref o9]) hob
    have qob : (upd H47 ob (.lst [.ref o9])) ob = some (.lst [.ref o9]) := upd_same
    have E := E.same s48
    generalize upd H47 ob (.lst [.ref o9]) = H48 at E s48 qob ⊢
    refine ⟨po, ob, _, _, rfl, rfl, s48 _ _ (s47 _ _ qpo), qob, by show 8 + 1 ≤ sizeLine; decide, fun pz hpz => ?_⟩
    have E := E.new (.lst ([.ref o1, .ref o2, .ref o3, .ref o4, .ref o5, .str t, .non, .ref o8] ++ [.ref o9])) hpz
    generalize upd H48 pz (.lst ([.ref o1, .ref o2, .ref o3, .ref o4, .ref o5, .str t, .non, .ref o8] ++ [.ref o9])) = H49 at E ⊢
    clear hpz qob s48 s47 hob ho9 qpo hpo ho8 ho5 ho4 ho3 ho2 ho1 x1 x2 hxl
    have hzz : ("zz" : Str) ∉ lg.rows.map (·.1) := fun z => by
      rw [elr] at z
      have := hthr _ ((pms.map _).mem_iff.mp z)
      simp only [thrNames, List.mem_cons, List.mem_nil_iff, or_false] at this
      rcases this with h | h | h | h | h <;> exact absurd h (by decide +kernel)
    have hlt : lg.rows.lookup t = some es := by rw [elr, lookup_perm pms g.nd]; exact hes
    have szz : PyData.strOk "zz" = true := by decide +kernel
    generalize hFF : ((pz, HO.lst ([.ref o1, .ref o2, .ref o3, .ref o4, .ref o5, .str t, .non, .ref o8] ++ [.ref o9])) :: _ : List (Addr × HO)) = FF at E
    have mz : (pz, HO.lst ([.ref o1, .ref o2, .ref o3, .ref o4, .ref o5, .str t, .non, .ref o8] ++ [.ref o9])) ∈ FF := by rw [← hFF]; simp
    have mw : (wl, HO.lst (drawWords.map V.str)) ∈ FF := by rw [← hFF]; simp
    have mp : (pl, HO.lst (cells.map V.int)) ∈ FF := by rw [← hFF]; simp
    have all : ∀ {H' : Hp}, EnvI K CL TT a ra α rows H' FF [lg] → ∀ v ∈ ([.ref o1, .ref o2, .ref o3, .ref o4, .ref o5, .str t, .non, .ref o8] ++ [.ref o9] : List V), OddOk K H' lg.rows v := fun {H'} E v hv => by
      have m1 : H' o1 = some (.tup [.str t, .int (es.length : Nat)]) := E.at (by rw [← hFF]; simp)
      have m2 : H' o2 = some (.tup [.str t, .int (-1)]) := E.at (by rw [← hFF]; simp)
      have m3 : H' o3 = some (.tup [.str "zz", .int 0]) := E.at (by rw [← hFF]; simp)
      have m4 : H' o4 = some (.lst [.str t, .int 0]) := E.at (by rw [← hFF]; simp)
      have m5 : H' o5 = some (.tup [.str t]) := E.at (by rw [← hFF]; simp)
      have m8 : H' o8 = some (.tup [.str t, .bl true]) := E.at (by rw [← hFF]; simp)
      have m9 : H' o9 = some (.tup [.int 0, .str t]) := E.at (by rw [← hFF]; simp)
      simp only [List.cons_append, List.nil_append, List.mem_cons, List.mem_nil_iff, or_false] at hv
      rcases hv with rfl | rfl | rfl | rfl | rfl | rfl | rfl | rfl | rfl
      · exact odd_place m1 hlt (by omega) hst
      · exact odd_place m2 hlt (by omega) hst
      · exact odd_name m3 hzz szz
      · exact odd_list m4 hst
      · exact odd_one m5 hst
      · exact odd_str hst
      · exact odd_non
      · exact odd_true m8 hst
      · exact odd_turn m9 hst
    refine ⟨pz, rfl, ⟨_, SqL.of (E.at mz)⟩, ?_⟩
    refine for_it (walk_list (K := K) (a := pz) (xs := [.ref o1, .ref o2, .ref o3, .ref o4, .ref o5, .str t, .non, .ref o8] ++ [.ref o9])) (fun i σ H' => (∃ w15 : Option V, σ = [some (.ref sa), some (.ref wl), some (.int c), some (.ref a), some (.ref ra), some (.ref be), some (.ref ru), some (.ref fa), some (.ref l), some (.ref so), some (.ref l2), some (.str t), some (.ref pb), w13, some (.ref po), w15, w16]) ∧ EnvI K CL TT a ra α rows H' FF [lg])
      ⟨⟨_, rfl⟩, E⟩ (fun i σ H' _ q => SqL.of (q.2.at mz)) ?_ ?_
    · clear E
      rintro j v σ Ha Hb hj ⟨⟨w15, rfl⟩, E⟩ ⟨rfl, hv⟩
      obtain ⟨od1, d, od2, od3⟩ := all E v (List.mem_of_getElem? hv)
      refine st_ifl ?_
      refine ⟨_, rfl, _, rfl, l, v, lg.rows, κ0, lg.g, d, rfl, by rw [← ell]; exact (E.log mlg).log, od1, od2, od3, fun H' s' => ⟨true, rfl, iteF ?_⟩⟩
      exact ⟨⟨_, rfl⟩, E.same s'⟩
    · rintro σ H' ⟨⟨w15, rfl⟩, E⟩
      exact ⟨⟨_, _, _, _, _, _, _, _, _, _, _, _, _, _, _, rfl⟩, E.at mw, E.at mp, E.tabs⟩
end
end Lg

/-! what the head's facts give, for any of these laws -/
namespace Hx
open PySem L2 He
def dd (at_ : Str × Option Str) (x qual : Str) (st : Stmt) : DefD := ⟨at_, x, qual, defArgs st, defBody st, defScope st, [], []⟩
theorem fun_of {K : PySem.W.Frag} {x qual : Str} {st : Stmt} {f : Addr} {fd : FuncData} (F : FunD K x qual (defArgs st) (defBody st) (defScope st) [] [] f fd) : Fun K x qual st f fd := by
  obtain ⟨oc, od, dV, kV, doc, pm, an, cdv, ct, osl, e, lk, hcd, hD, _⟩ := F.ex
  rcases hD with ⟨_, z⟩ | ⟨z, _⟩
  · subst z
    exact ⟨⟨oc, od, kV, doc, pm, an, cdv, ct, osl, e, lk, hcd⟩, F.kp⟩
  · exact absurd rfl z
theorem funC_of {K : PySem.W.Frag} {p : Str × Option Str} {x qual : Str} {st : Stmt} {fd : FuncData} (F : FunD K x qual (defArgs st) (defBody st) (defScope st) [] [] (fAd K p) fd) : Lg.FunC K x qual st (fAd K p) fd (codeOf K p) := by
  obtain ⟨oc, od, dV, kV, doc, pm, an, cdv, ct, osl, e, lk, hcd, hD, _⟩ := F.ex
  rcases hD with ⟨_, z⟩ | ⟨z, _⟩
  · subst z
    obtain ⟨c, rfl⟩ := codeIn_ref hcd
    subst e
    have ec : codeOf K p = c := codeOf_eq lk rfl
    rw [ec]
    exact ⟨oc, od, kV, doc, pm, an, ct, osl, rfl, lk, hcd⟩
  · exact absurd rfl z
theorem funD_of {K : PySem.W.Frag} {x qual : Str} {st : Stmt} {f : Addr} {fd : FuncData} {dvs : List V} {kws : List (Str × V)} (F : FunD K x qual (defArgs st) (defBody st) (defScope st) dvs kws f fd) : Lg.FunD K x qual st f fd := by
  obtain ⟨oc, od, dV, kV, doc, pm, an, cdv, ct, osl, e, lk, hcd, _, _⟩ := F.ex
  exact ⟨oc, od, dV, kV, doc, pm, an, cdv, ct, osl, e, lk, hcd⟩
/-! ### facts of an error's class, by a look -/
def oexB (K : PySem.W.Frag) (C : Addr) : Bool := match K.lookup C with
  | some ⟨.type "type", _, .cls cd, sl⟩ => (match cd.mro, sl.toList with
    | .ref C' :: bm, [_, _, _, _, some (.builtin n), _] => C' == C && (n == "ValueError.__new__" && (!cd.hasDel && (cd.hasDict && PySem.HandSPX.refsVE bm)))
    | _, _ => false)
  | _ => false
theorem oexB_ok {K : PySem.W.Frag} {C : Addr} (q : oexB K C = true) : ∃ nm q N bs bm sn sub ab col dd k0 k1 k2 k3 k5, K.lookup C = some (excClassObj nm q C N bs bm true sn sub ab col dd k0 k1 k2 k3 k5 "ValueError.__new__") ∧ PySem.HandSPX.refsVE bm = true := by
  unfold oexB at q
  split at q
  · rename_i dd cd sl ho
    split at q
    · rename_i C' bm k0 k1 k2 k3 n k5 hm hs
      obtain ⟨q1, q⟩ := ba q
      obtain ⟨q2, q⟩ := ba q
      obtain ⟨q3, q⟩ := ba q
      obtain ⟨q4, q5⟩ := ba q
      have e1 : C' = C := eq_of_beq q1
      have e2 : n = "ValueError.__new__" := eq_of_beq q2
      obtain ⟨nm, bs, mro, ns, qn, hd, sn, sub, ab, col, del⟩ := cd
      dsimp only at hm q3 q4
      subst hm e1 e2
      have e3 : del = false := by
        cases del with
        | false => rfl
        | true => cases q3
      subst e3 q4
      have hsl : sl = #[k0, k1, k2, k3, some (.builtin "ValueError.__new__"), k5] := by
        obtain ⟨l⟩ := sl
        simp only at hs
        rw [hs]
      subst hsl
      exact ⟨nm, qn, ns, bs, bm, sn, sub, ab, col, dd, k0, k1, k2, k3, k5, ho, q5⟩
    · cases q
  · cases q
def eqV (a b : Option Value) : Bool := decide (a = b)
def eqB (a b : Option Bool) : Bool := decide (a = b)
def oexAll (K : PySem.W.Frag) (C : Addr) : Bool := oexB K C && (eqO (PySem.W.findIn K (.ref C) "__setattr__") (some (some (.builtin "object.__setattr__"))) && (eqB (PySem.W.subIn K (.ref C) (.type "BaseException")) (some true) &&
  (eqV (PySem.W.typeIn K (.ref C)) (some (.type "type")) && PySem.W.keepIn K (.ref C))))
theorem oexAll_ok {K : PySem.W.Frag} {C : Addr} (q : oexAll K C = true) : OexC K C := by
  obtain ⟨q1, q⟩ := ba q
  obtain ⟨q2, q⟩ := ba q
  obtain ⟨q3, q⟩ := ba q
  obtain ⟨q4, q5⟩ := ba q
  exact ⟨oexB_ok q1, eqO_ok q2, of_decide_eq_true q3, of_decide_eq_true q4, q5⟩
/-! ### the names of the module -/
def gbFa : List Fa := ([.free "isinstance", .free "len", .free "all", .free "sum", .free "sorted", .free "repr", .free "enumerate", .free "tuple", .free "dict", .free "list", .free "range", .free "int", .free "str", .free "bool", .free "set"] : List Fa) ++
  [.int "MOST_NAME" 10, .str "LETTERS" Lg.LET, .int "MOST_THREADS" 5, .int "MOST_EVENTS" 40, .glo "CELL_WORDS", .glo "LOCK_WORDS", .glo "COUNTER_WORDS", .glo "THREAD_WORDS", .glo "LONE_WORDS"]
def gbEx (K : PySem.W.Frag) : Bool := tupB K "CELL_WORDS" [.str "read", .str "write", .str "swap"] && (tupB K "LOCK_WORDS" [.str "lock", .str "unlock", .str "share", .str "unshare"] && (tupB K "COUNTER_WORDS" [.str "up", .str "down"] && (tupB K "THREAD_WORDS" [.str "fork", .str "join"] && tupB K "LONE_WORDS" [.str "step", .str "end"])))
theorem gb_of {K : PySem.W.Frag} {h : Heap} {mg : Str → Option Value} (X : K.In h) (G : h.Ns mainGlobals mg) (fa : ∀ a, a ∈ gbFa → a.ok K = true) (e : gbEx K = true) : Lg.Gb K mg := by
  obtain ⟨e1, e⟩ := ba e
  obtain ⟨e2, e⟩ := ba e
  obtain ⟨e3, e⟩ := ba e
  obtain ⟨e4, e5⟩ := ba e
  exact { m_isinstance := free_ok X G (fa _ (by simp [gbFa])), m_len := free_ok X G (fa _ (by simp [gbFa])), m_all := free_ok X G (fa _ (by simp [gbFa])), m_sum := free_ok X G (fa _ (by simp [gbFa])), m_sorted := free_ok X G (fa _ (by simp [gbFa])), m_repr := free_ok X G (fa _ (by simp [gbFa])),
          m_enumerate := free_ok X G (fa _ (by simp [gbFa])), m_tuple := free_ok X G (fa _ (by simp [gbFa])), m_dict := free_ok X G (fa _ (by simp [gbFa])), m_list := free_ok X G (fa _ (by simp [gbFa])), m_range := free_ok X G (fa _ (by simp [gbFa])), m_int := free_ok X G (fa _ (by simp [gbFa])),
          m_str := free_ok X G (fa _ (by simp [gbFa])), m_bool := free_ok X G (fa _ (by simp [gbFa])), m_set := free_ok X G (fa _ (by simp [gbFa])), c_name := int_ok X G (fa _ (by simp [gbFa])), c_let := str_ok X G (fa _ (by simp [gbFa])), c_thr := int_ok X G (fa _ (by simp [gbFa])), c_evs := int_ok X G (fa _ (by simp [gbFa])),
          g_cell := glo_ok X G (fa _ (by simp [gbFa])), g_lock := glo_ok X G (fa _ (by simp [gbFa])), g_cnt := glo_ok X G (fa _ (by simp [gbFa])), g_thr := glo_ok X G (fa _ (by simp [gbFa])), g_lone := glo_ok X G (fa _ (by simp [gbFa])),
          t_cell := fun H => tupB_ok e1 H, t_lock := fun H => tupB_ok e2 H, t_cnt := fun H => tupB_ok e3 H, t_thr := fun H => tupB_ok e4 H, t_lone := fun H => tupB_ok e5 H }
def chkFa : List Fa := [.cls "Checker", .noat "Checker" "rows", .noat "Checker" "kinds", .noat "Checker" "forked", .glo "Checker", .mkr "Checker", .meth "Checker" "check", .meth "Checker" "check_thread", .meth "Checker" "problem_of", .meth "Checker" "problem_of_thread"]
theorem chk_of {K : PySem.W.Frag} (fa : ∀ a, a ∈ chkFa → a.ok K = true) : Lg.ChkC K (ga K "Checker") := ⟨cls_ok (fa _ (by simp [chkFa])), noat_ok (fa _ (by simp [chkFa])), noat_ok (fa _ (by simp [chkFa])), noat_ok (fa _ (by simp [chkFa]))⟩
def logFa : List Fa := ([.cls "Log", .noat "Log" "rows", .noat "Log" "names", .noat "Log" "kinds", .noat "Log" "forks", .noat "Log" "first", .noat "Log" "cells", .noat "Log" "held", .noat "Log" "raised", .noat "Log" "graph"] : List Fa) ++
  [.glo "Log", .mkr "Log", .meth "Log" "check_first", .meth "Log" "__eq__", .meth "Log" "threads", .meth "Log" "events", .meth "Log" "event", .meth "Log" "objects"]
theorem log_of {K : PySem.W.Frag} (fa : ∀ a, a ∈ logFa → a.ok K = true) : Lg.LogC K (ga K "Log") := ⟨cls_ok (fa _ (by simp [logFa])), noat_ok (fa _ (by simp [logFa])), noat_ok (fa _ (by simp [logFa])), noat_ok (fa _ (by simp [logFa])), noat_ok (fa _ (by simp [logFa])), noat_ok (fa _ (by simp [logFa])), noat_ok (fa _ (by simp [logFa])), noat_ok (fa _ (by simp [logFa])), noat_ok (fa _ (by simp [logFa])), noat_ok (fa _ (by simp [logFa]))⟩
def lgqB (K : PySem.W.Frag) (C : Addr) : Bool := eqB (PySem.W.kitOne K (.ref C) (.ref C)) (some true) && (eqB (PySem.W.kitOne K (.type "dict") (.ref C)) (some false) && (eqB (PySem.W.kitOne K (.type "NoneType") (.ref C)) (some false) && (eqO (PySem.W.findIn K (.ref C) "__class__") (some (some (.builtin "object.__class__"))) &&
  (eqO (PySem.W.specialIn K (.builtin "object.__class__") "__get__") (some (some (.builtin "getset_descriptor.__get__"))) && (eqB (PySem.W.takesIn K (.builtin "object.__class__")) (some true) && eqB (PySem.W.mroIn K C (.type "object")) (some true))))))
theorem lgq_of {K : PySem.W.Frag} {mg : Str → Option Value} {C : Addr} (hm : mg "Log" = some (.ref C)) (q : lgqB K C = true) : Lg.LgQ K mg C := by
  obtain ⟨q1, q⟩ := ba q
  obtain ⟨q2, q⟩ := ba q
  obtain ⟨q3, q⟩ := ba q
  obtain ⟨q4, q⟩ := ba q
  obtain ⟨q5, q⟩ := ba q
  obtain ⟨q6, q7⟩ := ba q
  exact ⟨hm, of_decide_eq_true q1, of_decide_eq_true q2, of_decide_eq_true q3, eqO_ok q4, eqO_ok q5, of_decide_eq_true q6, of_decide_eq_true q7⟩
def eqcB (K : PySem.W.Frag) (C : Addr) : Bool := eqO (PySem.W.findIn K (.ref C) "__ne__") (some (some (.builtin "object.__ne__"))) && (eqB (PySem.W.mroIn K C (.type "object")) (some true) && (eqB (PySem.W.subIn K (.type "dict") (.ref C)) (some false) && eqB (PySem.W.subIn K (.type "NoneType") (.ref C)) (some false)))
theorem eqc_of {K : PySem.W.Frag} {C : Addr} {f : Addr} (m : Meth K C "__eq__" f) (q : eqcB K C = true) : OwE.EqC K C f := by
  obtain ⟨q1, q⟩ := ba q
  obtain ⟨q2, q⟩ := ba q
  obtain ⟨q3, q4⟩ := ba q
  obtain ⟨m1, m2, m3⟩ := m
  exact ⟨m1, eqO_ok q1, m2, of_decide_eq_true q2, of_decide_eq_true q3, of_decide_eq_true q4⟩
end Hx

namespace K1
open PySem L2 He Hx Lg
def d_BadEvent_init : DefD := dd ("BadEvent", some "__init__") "__init__" "BadEvent.__init__" s_BadEvent_init
def d_is_integer : DefD := dd ("is_integer", none) "is_integer" "is_integer" s_is_integer
def d_is_name : DefD := dd ("is_name", none) "is_name" "is_name" s_is_name
def d_kind_of : DefD := dd ("kind_of", none) "kind_of" "kind_of" s_kind_of
def d_is_event : DefD := dd ("is_event", none) "is_event" "is_event" s_is_event
def d_Checker_init : DefD := dd ("Checker", some "__init__") "__init__" "Checker.__init__" s_Checker_init
def d_Checker_check : DefD := dd ("Checker", some "check") "check" "Checker.check" s_Checker_check
def d_Checker_check_thread : DefD := dd ("Checker", some "check_thread") "check_thread" "Checker.check_thread" s_Checker_check_thread
def d_Checker_problem_of : DefD := dd ("Checker", some "problem_of") "problem_of" "Checker.problem_of" s_Checker_problem_of
def d_Checker_problem_of_thread : DefD := dd ("Checker", some "problem_of_thread") "problem_of_thread" "Checker.problem_of_thread" s_Checker_problem_of_thread
def d_is_held_right : DefD := dd ("is_held_right", none) "is_held_right" "is_held_right" s_is_held_right
def d_does_end : DefD := dd ("does_end", none) "does_end" "does_end" s_does_end
def d_Log_init : DefD := ⟨("Log", some "__init__"), "__init__", "Log.__init__", defArgs s_Log_init, defBody s_Log_init, defScope s_Log_init, [.non], []⟩
def d_Log_check_first : DefD := dd ("Log", some "check_first") "check_first" "Log.check_first" s_Log_check_first
def d_Log_eq : DefD := dd ("Log", some "__eq__") "__eq__" "Log.__eq__" s_Log_eq
def d_Log_threads : DefD := dd ("Log", some "threads") "threads" "Log.threads" s_Log_threads
def d_Log_events : DefD := dd ("Log", some "events") "events" "Log.events" s_Log_events
def d_Log_event : DefD := dd ("Log", some "event") "event" "Log.event" s_Log_event
def d_Log_objects : DefD := dd ("Log", some "objects") "objects" "Log.objects" s_Log_objects
def d_want_event : DefD := dd ("want_event", none) "want_event" "want_event" s_want_event
def d_held_after : DefD := dd ("held_after", none) "held_after" "held_after" s_held_after
def d_raised_after : DefD := dd ("raised_after", none) "raised_after" "raised_after" s_raised_after
def d_law_well : DefD := dd ("_law_well", none) "_law_well" "_law_well" s_law_well
def d_law_draw : DefD := dd ("_law_draw", none) "_law_draw" "_law_draw" s_law_draw
def d_law_one : DefD := dd ("_law_one", none) "_law_one" "_law_one" s_law_one
def d_law_words : DefD := dd ("_law_words", none) "_law_words" "_law_words" s_law_words
def d_law_all : DefD := dd ("_law_all", none) "_law_all" "_law_all" s_law_all
def d_law_event : DefD := dd ("_law_event", none) "_law_event" "_law_event" s_law_event
def d_law_happen : DefD := dd ("_law_happen", none) "_law_happen" "_law_happen" s_law_happen
def d_law_record : DefD := dd ("_law_record", none) "_law_record" "_law_record" s_law_record
def d_law_turned : DefD := dd ("_law_turned", none) "_law_turned" "_law_turned" s_law_turned
def d_law_refused : DefD := dd ("_law_refused", none) "_law_refused" "_law_refused" s_law_refused
def d_law_is_read : DefD := dd ("_law_is_read", none) "_law_is_read" "_law_is_read" s_law_is_read
def d_law : DefD := dd ("law", none) "law" "law" s_law
def fns : List DefD := [d_BadEvent_init, d_is_integer, d_is_name, d_kind_of, d_is_event, d_Checker_init, d_Checker_check, d_Checker_check_thread, d_Checker_problem_of, d_Checker_problem_of_thread, d_is_held_right, d_does_end, d_Log_init, d_Log_check_first, d_Log_eq, d_Log_threads, d_Log_events, d_Log_event, d_Log_objects, d_want_event, d_held_after, d_raised_after, d_law_well, d_law_draw, d_law_one, d_law_words, d_law_all, d_law_event, d_law_happen, d_law_record, d_law_turned, d_law_refused, d_law_is_read, d_law]
def fas : List Fa := gbFa ++ (chkFa ++ (logFa ++ ([.glo "is_integer", .glo "is_name", .glo "kind_of", .glo "is_event", .glo "is_held_right", .glo "does_end", .glo "want_event", .glo "held_after", .glo "raised_after", .glo "_law_well", .glo "_law_draw", .glo "_law_one", .glo "_law_words", .glo "_law_all", .glo "_law_event", .glo "_law_happen", .glo "_law_record", .glo "_law_turned", .glo "_law_refused", .glo "_law_is_read", .glo "law"] ++ [.glo "BadEvent", .exm "BadEvent" "BadEvent" true, .noat "BadEvent" "e"])))
abbrev pCk : Defn := ("Checker", some "check")
abbrev pCf : Defn := ("Log", some "check_first")
def tfs : List Defn := [pCk, pCf]
def ex (K : PySem.W.Frag) : Bool := gbEx K && (lgqB K (ga K "Log") && (eqcB K (ga K "Log") && (oexAll K (ga K "BadEvent") && (xfB K (ga K "BadEvent") && (eqO (PySem.W.findIn K (.ref (ga K "BadEvent")) "__init__") (some (some (.ref (ma K (ga K "BadEvent") "__init__")))) &&
  (eqV (PySem.W.typeIn K (.ref (ma K (ga K "BadEvent") "__init__"))) (some (.type "function")) && decide ((cT K pCk).2 ≠ (cT K pCf).2)))))))
abbrev R : PySem.W.OpenRow := PySem.W.OpenLaw.row PySem.Challenge.rw_onerun_k01_logs_read
abbrev hk : PySem.W.Hook := hookX 6 fas fns [] tfs ex
def ob (s : PySem.W.SharedT) : AlX := obsX 6 fas fns [] tfs ex (HandSHeadRun.getT s)
theorem ob_eq (s : PySem.W.SharedT) : ob s = hk.obs s.abs := obsX_eq (HandSHeadRun.getT_eq s)
def loose : List Str := (["LogError", "BadLog", "BadFirst", "BadEvent", "MOST_NAME", "LETTERS", "CELL_WORDS", "LOCK_WORDS", "COUNTER_WORDS", "THREAD_WORDS", "LONE_WORDS", "MOST_THREADS", "MOST_EVENTS", "Checker", "Log", "is_integer"] : List Str) ++ (["is_name", "kind_of", "is_event", "is_held_right", "does_end", "want_event", "held_after", "raised_after", "_law_well", "_law_draw", "_law_one", "_law_words", "_law_all", "_law_event", "_law_happen", "_law_record", "_law_turned", "_law_refused", "_law_is_read"] : List Str)
theorem facts {w : World} {K : PySem.W.Frag} {h : Heap} {mg : Str → Option Value} {f : Addr} (X : K.In h) (G : h.Ns mainGlobals mg) (hfa : mg ("law" : Str) = some (.ref f)) (c : SaysX fas fns [] tfs ex w h K) : LamX.LawAtS PySem.Challenge.rw_onerun_k01_logs_read w K CX0 9 63 "_law_script" mg f h := by
  have fa0 : ∀ a, a ∈ fas → a.ok K = true := fun a ha => c.t.d.facts ha
  have fa1 : ∀ a, a ∈ gbFa → a.ok K = true := fun a ha => fa0 a (List.mem_append_left _ ha)
  have fa2 : ∀ a, a ∈ chkFa → a.ok K = true := fun a ha => fa0 a (List.mem_append_right _ (List.mem_append_left _ ha))
  have fa3 : ∀ a, a ∈ logFa → a.ok K = true := fun a ha => fa0 a (List.mem_append_right _ (List.mem_append_right _ (List.mem_append_left _ ha)))
  have fa4 : ∀ a, a ∈ ([.glo "is_integer", .glo "is_name", .glo "kind_of", .glo "is_event", .glo "is_held_right", .glo "does_end", .glo "want_event", .glo "held_after", .glo "raised_after", .glo "_law_well", .glo "_law_draw", .glo "_law_one", .glo "_law_words", .glo "_law_all", .glo "_law_event", .glo "_law_happen", .glo "_law_record", .glo "_law_turned", .glo "_law_refused", .glo "_law_is_read", .glo "law"] : List Fa) → a.ok K = true := fun a ha => fa0 a (List.mem_append_right _ (List.mem_append_right _ (List.mem_append_right _ (List.mem_append_left _ ha))))
  have fa5 : ∀ a, a ∈ ([.glo "BadEvent", .exm "BadEvent" "BadEvent" true, .noat "BadEvent" "e"] : List Fa) → a.ok K = true := fun a ha => fa0 a (List.mem_append_right _ (List.mem_append_right _ (List.mem_append_right _ (List.mem_append_right _ ha))))
  obtain ⟨x1, x⟩ := ba c.more
  obtain ⟨x2, x⟩ := ba x
  obtain ⟨x3, x⟩ := ba x
  obtain ⟨x4, x⟩ := ba x
  obtain ⟨x5, x⟩ := ba x
  obtain ⟨x6, x⟩ := ba x
  obtain ⟨x7, x8⟩ := ba x
  have hne : (cT K pCk).2 ≠ (cT K pCf).2 := of_decide_eq_true x8
  have T : Gb K mg := gb_of X G fa1 x1
  have TC : ChkC K (ga K "Checker") := chk_of fa2
  have TL : LogC K (ga K "Log") := log_of fa3
  have mgL : mg "Log" = some (.ref (ga K "Log")) := glo_ok X G (fa3 _ (by simp [logFa]))
  have TQ := lgq_of mgL x2
  obtain ⟨fd_BadEvent_init, F_BadEvent_init'⟩ := c.t.d.defs (d := d_BadEvent_init) (by simp [fns])
  have F_BadEvent_init : Fun K "__init__" "BadEvent.__init__" s_BadEvent_init (fAd K ("BadEvent", some "__init__")) fd_BadEvent_init := fun_of F_BadEvent_init'
  obtain ⟨fd_is_integer, F_is_integer'⟩ := c.t.d.defs (d := d_is_integer) (by simp [fns])
  have F_is_integer : Fun K "is_integer" "is_integer" s_is_integer (fAd K ("is_integer", none)) fd_is_integer := fun_of F_is_integer'
  obtain ⟨fd_is_name, F_is_name'⟩ := c.t.d.defs (d := d_is_name) (by simp [fns])
  have F_is_name : Fun K "is_name" "is_name" s_is_name (fAd K ("is_name", none)) fd_is_name := fun_of F_is_name'
  obtain ⟨fd_kind_of, F_kind_of'⟩ := c.t.d.defs (d := d_kind_of) (by simp [fns])
  have F_kind_of : Fun K "kind_of" "kind_of" s_kind_of (fAd K ("kind_of", none)) fd_kind_of := fun_of F_kind_of'
  obtain ⟨fd_is_event, F_is_event'⟩ := c.t.d.defs (d := d_is_event) (by simp [fns])
  have F_is_event : Fun K "is_event" "is_event" s_is_event (fAd K ("is_event", none)) fd_is_event := fun_of F_is_event'
  obtain ⟨fd_Checker_init, F_Checker_init'⟩ := c.t.d.defs (d := d_Checker_init) (by simp [fns])
  have F_Checker_init : Fun K "__init__" "Checker.__init__" s_Checker_init (fAd K ("Checker", some "__init__")) fd_Checker_init := fun_of F_Checker_init'
  obtain ⟨fd_Checker_check, F_Checker_check'⟩ := c.t.d.defs (d := d_Checker_check) (by simp [fns])
  have F_Checker_check : Lg.FunC K "check" "Checker.check" s_Checker_check (fAd K ("Checker", some "check")) fd_Checker_check (codeOf K ("Checker", some "check")) := funC_of F_Checker_check'
  have G_Checker_check : Fun K "check" "Checker.check" s_Checker_check (fAd K ("Checker", some "check")) fd_Checker_check := fun_of F_Checker_check'
  obtain ⟨fd_Checker_check_thread, F_Checker_check_thread'⟩ := c.t.d.defs (d := d_Checker_check_thread) (by simp [fns])
  have F_Checker_check_thread : Fun K "check_thread" "Checker.check_thread" s_Checker_check_thread (fAd K ("Checker", some "check_thread")) fd_Checker_check_thread := fun_of F_Checker_check_thread'
  obtain ⟨fd_Checker_problem_of, F_Checker_problem_of'⟩ := c.t.d.defs (d := d_Checker_problem_of) (by simp [fns])
  have F_Checker_problem_of : Fun K "problem_of" "Checker.problem_of" s_Checker_problem_of (fAd K ("Checker", some "problem_of")) fd_Checker_problem_of := fun_of F_Checker_problem_of'
  obtain ⟨fd_Checker_problem_of_thread, F_Checker_problem_of_thread'⟩ := c.t.d.defs (d := d_Checker_problem_of_thread) (by simp [fns])
  have F_Checker_problem_of_thread : Fun K "problem_of_thread" "Checker.problem_of_thread" s_Checker_problem_of_thread (fAd K ("Checker", some "problem_of_thread")) fd_Checker_problem_of_thread := fun_of F_Checker_problem_of_thread'
  obtain ⟨fd_is_held_right, F_is_held_right'⟩ := c.t.d.defs (d := d_is_held_right) (by simp [fns])
  have F_is_held_right : Fun K "is_held_right" "is_held_right" s_is_held_right (fAd K ("is_held_right", none)) fd_is_held_right := fun_of F_is_held_right'
  obtain ⟨fd_does_end, F_does_end'⟩ := c.t.d.defs (d := d_does_end) (by simp [fns])
  have F_does_end : Fun K "does_end" "does_end" s_does_end (fAd K ("does_end", none)) fd_does_end := fun_of F_does_end'
  obtain ⟨fd_Log_init, F_Log_init'⟩ := c.t.d.defs (d := d_Log_init) (by simp [fns])
  have F_Log_init : Lg.FunD K "__init__" "Log.__init__" s_Log_init (fAd K ("Log", some "__init__")) fd_Log_init := funD_of F_Log_init'
  obtain ⟨fd_Log_check_first, F_Log_check_first'⟩ := c.t.d.defs (d := d_Log_check_first) (by simp [fns])
  have F_Log_check_first : Lg.FunC K "check_first" "Log.check_first" s_Log_check_first (fAd K ("Log", some "check_first")) fd_Log_check_first (codeOf K ("Log", some "check_first")) := funC_of F_Log_check_first'
  have G_Log_check_first : Fun K "check_first" "Log.check_first" s_Log_check_first (fAd K ("Log", some "check_first")) fd_Log_check_first := fun_of F_Log_check_first'
  obtain ⟨fd_Log_eq, F_Log_eq'⟩ := c.t.d.defs (d := d_Log_eq) (by simp [fns])
  have F_Log_eq : Fun K "__eq__" "Log.__eq__" s_Log_eq (fAd K ("Log", some "__eq__")) fd_Log_eq := fun_of F_Log_eq'
  obtain ⟨fd_Log_threads, F_Log_threads'⟩ := c.t.d.defs (d := d_Log_threads) (by simp [fns])
  have F_Log_threads : Fun K "threads" "Log.threads" s_Log_threads (fAd K ("Log", some "threads")) fd_Log_threads := fun_of F_Log_threads'
  obtain ⟨fd_Log_events, F_Log_events'⟩ := c.t.d.defs (d := d_Log_events) (by simp [fns])
  have F_Log_events : Fun K "events" "Log.events" s_Log_events (fAd K ("Log", some "events")) fd_Log_events := fun_of F_Log_events'
  obtain ⟨fd_Log_event, F_Log_event'⟩ := c.t.d.defs (d := d_Log_event) (by simp [fns])
  have F_Log_event : Fun K "event" "Log.event" s_Log_event (fAd K ("Log", some "event")) fd_Log_event := fun_of F_Log_event'
  obtain ⟨fd_Log_objects, F_Log_objects'⟩ := c.t.d.defs (d := d_Log_objects) (by simp [fns])
  have F_Log_objects : Fun K "objects" "Log.objects" s_Log_objects (fAd K ("Log", some "objects")) fd_Log_objects := fun_of F_Log_objects'
  obtain ⟨fd_want_event, F_want_event'⟩ := c.t.d.defs (d := d_want_event) (by simp [fns])
  have F_want_event : Fun K "want_event" "want_event" s_want_event (fAd K ("want_event", none)) fd_want_event := fun_of F_want_event'
  obtain ⟨fd_held_after, F_held_after'⟩ := c.t.d.defs (d := d_held_after) (by simp [fns])
  have F_held_after : Fun K "held_after" "held_after" s_held_after (fAd K ("held_after", none)) fd_held_after := fun_of F_held_after'
  obtain ⟨fd_raised_after, F_raised_after'⟩ := c.t.d.defs (d := d_raised_after) (by simp [fns])
  have F_raised_after : Fun K "raised_after" "raised_after" s_raised_after (fAd K ("raised_after", none)) fd_raised_after := fun_of F_raised_after'
  obtain ⟨fd_law_well, F_law_well'⟩ := c.t.d.defs (d := d_law_well) (by simp [fns])
  have F_law_well : Fun K "_law_well" "_law_well" s_law_well (fAd K ("_law_well", none)) fd_law_well := fun_of F_law_well'
  obtain ⟨fd_law_draw, F_law_draw'⟩ := c.t.d.defs (d := d_law_draw) (by simp [fns])
  have F_law_draw : Fun K "_law_draw" "_law_draw" s_law_draw (fAd K ("_law_draw", none)) fd_law_draw := fun_of F_law_draw'
  obtain ⟨fd_law_one, F_law_one'⟩ := c.t.d.defs (d := d_law_one) (by simp [fns])
  have F_law_one : Fun K "_law_one" "_law_one" s_law_one (fAd K ("_law_one", none)) fd_law_one := fun_of F_law_one'
  obtain ⟨fd_law_words, F_law_words'⟩ := c.t.d.defs (d := d_law_words) (by simp [fns])
  have F_law_words : Fun K "_law_words" "_law_words" s_law_words (fAd K ("_law_words", none)) fd_law_words := fun_of F_law_words'
  obtain ⟨fd_law_all, F_law_all'⟩ := c.t.d.defs (d := d_law_all) (by simp [fns])
  have F_law_all : Fun K "_law_all" "_law_all" s_law_all (fAd K ("_law_all", none)) fd_law_all := fun_of F_law_all'
  obtain ⟨fd_law_event, F_law_event'⟩ := c.t.d.defs (d := d_law_event) (by simp [fns])
  have F_law_event : Fun K "_law_event" "_law_event" s_law_event (fAd K ("_law_event", none)) fd_law_event := fun_of F_law_event'
  obtain ⟨fd_law_happen, F_law_happen'⟩ := c.t.d.defs (d := d_law_happen) (by simp [fns])
  have F_law_happen : Fun K "_law_happen" "_law_happen" s_law_happen (fAd K ("_law_happen", none)) fd_law_happen := fun_of F_law_happen'
  obtain ⟨fd_law_record, F_law_record'⟩ := c.t.d.defs (d := d_law_record) (by simp [fns])
  have F_law_record : Fun K "_law_record" "_law_record" s_law_record (fAd K ("_law_record", none)) fd_law_record := fun_of F_law_record'
  obtain ⟨fd_law_turned, F_law_turned'⟩ := c.t.d.defs (d := d_law_turned) (by simp [fns])
  have F_law_turned : Fun K "_law_turned" "_law_turned" s_law_turned (fAd K ("_law_turned", none)) fd_law_turned := fun_of F_law_turned'
  obtain ⟨fd_law_refused, F_law_refused'⟩ := c.t.d.defs (d := d_law_refused) (by simp [fns])
  have F_law_refused : Fun K "_law_refused" "_law_refused" s_law_refused (fAd K ("_law_refused", none)) fd_law_refused := fun_of F_law_refused'
  obtain ⟨fd_law_is_read, F_law_is_read'⟩ := c.t.d.defs (d := d_law_is_read) (by simp [fns])
  have F_law_is_read : Fun K "_law_is_read" "_law_is_read" s_law_is_read (fAd K ("_law_is_read", none)) fd_law_is_read := fun_of F_law_is_read'
  obtain ⟨fd_law, F_law'⟩ := c.t.d.defs (d := d_law) (by simp [fns])
  have F_law : Fun K "law" "law" s_law (fAd K ("law", none)) fd_law := fun_of F_law'
  have e := hfa.symm.trans (glo_ok X G (fa4 (.glo "law") (by simp)))
  cases e
  refine ⟨fd_law, [cT K pCk, cT K pCf], spLaw K [((cT K pCk).2, qCk), ((cT K pCf).2, qCf)], ?_, ?_, ?_, fun s v => F_law'.bindsA (ps := ["_law_script"]) (fun _ _ _ _ _ _ us hl => match us, hl with | [_], _ => rfl) s [v] rfl, ?_, ?_⟩
  · intro p hp
    simp only [List.mem_cons, List.mem_nil_iff, or_false] at hp
    rcases hp with rfl | rfl
    · exact c.empty pCk (by simp [tfs])
    · exact c.empty pCf (by simp [tfs])
  · intro p hp
    simp only [List.mem_cons, List.mem_nil_iff, or_false] at hp
    rcases hp with rfl | rfl
    · exact c.out pCk (by simp [tfs])
    · exact c.out pCf (by simp [tfs])
  · intro p hp
    simp only [List.mem_cons, List.mem_nil_iff, or_false] at hp
    rcases hp with rfl | rfl
    · exact PySem.W.codeHd_of_K X (c.hd pCk (by simp [tfs]))
    · exact PySem.W.codeHd_of_K X (c.hd pCf (by simp [tfs]))
  · intro H a ns _ _ hT hS
    refine ⟨a, ns, rfl, hS, fun p hp => ?_, fun _ => rfl⟩
    simp only [List.mem_cons, List.mem_nil_iff, or_false] at hp
    rcases hp with rfl | rfl
    · exact LamX.TabS.nil (hT (cT K pCk) (by simp))
    · exact LamX.TabS.nil (hT (cT K pCf) (by simp))
  · intro base _ _ hTB
    have TBk := hTB (cT K pCk) (by simp)
    have TBf := hTB (cT K pCf) (by simp)
    obtain ⟨TT, hTT⟩ : ∃ TT : List (Addr × Str), TT = [((cT K pCk).2, qCk), ((cT K pCf).2, qCf)] := ⟨_, rfl⟩
    rw [← hTT]
    have hm1 : ((cT K pCk).2, qCk) ∈ TT := by rw [hTT]; simp
    have hm2 : ((cT K pCf).2, qCf) ∈ TT := by rw [hTT]; simp
    have hu1 : ∀ p ∈ TT, p.1 = (cT K pCk).2 → p.2 = qCk := fun p hp e => by
      rw [hTT] at hp
      simp only [List.mem_cons, List.mem_nil_iff, or_false] at hp
      rcases hp with rfl | rfl
      · rfl
      · exact absurd e.symm hne
    have hu2 : ∀ p ∈ TT, p.1 = (cT K pCf).2 → p.2 = qCf := fun p hp e => by
      rw [hTT] at hp
      simp only [List.mem_cons, List.mem_nil_iff, or_false] at hp
      rcases hp with rfl | rfl
      · exact absurd e hne
      · rfl
    clear hTT
    have cInt : C0 (PySem.Challenge.rw_onerun_k01_logs_read).prog w K mg base 1 "is_integer" ["thing"] (spInt K) := ⟨_, _, ok_is_integer F_is_integer T, glo_ok X G (fa4 _ (by simp)), F_is_integer.kp, (F_is_integer.binds fun _ _ _ _ _ _ us hl => match us, hl with | [_], _ => rfl)⟩
    have cName : C0 (PySem.Challenge.rw_onerun_k01_logs_read).prog w K mg base 1 "is_name" ["thing"] spName := ⟨_, _, ok_is_name F_is_name T, glo_ok X G (fa4 _ (by simp)), F_is_name.kp, (F_is_name.binds fun _ _ _ _ _ _ us hl => match us, hl with | [_], _ => rfl)⟩
    have cKind : C0 (PySem.Challenge.rw_onerun_k01_logs_read).prog w K mg base 1 "kind_of" ["word"] spKind := ⟨_, _, ok_kind_of F_kind_of T, glo_ok X G (fa4 _ (by simp)), F_kind_of.kp, (F_kind_of.binds fun _ _ _ _ _ _ us hl => match us, hl with | [_], _ => rfl)⟩
    have cEvent : C0 (PySem.Challenge.rw_onerun_k01_logs_read).prog w K mg base 2 "is_event" ["thing"] (spEvent K) := ⟨_, _, ok_is_event F_is_event T cInt cName cKind, glo_ok X G (fa4 _ (by simp)), F_is_event.kp, (F_is_event.binds fun _ _ _ _ _ _ us hl => match us, hl with | [_], _ => rfl)⟩
    have cEnds : C0 (PySem.Challenge.rw_onerun_k01_logs_read).prog w K mg base 1 "does_end" ["row"] (spEnds K) := ⟨_, _, ok_does_end F_does_end T, glo_ok X G (fa4 _ (by simp)), F_does_end.kp, (F_does_end.binds fun _ _ _ _ _ _ us hl => match us, hl with | [_], _ => rfl)⟩
    have cHeld : C0 (PySem.Challenge.rw_onerun_k01_logs_read).prog w K mg base 1 "is_held_right" ["held", "word", "name"] spHeld := ⟨_, _, ok_is_held_right F_is_held_right T, glo_ok X G (fa4 _ (by simp)), F_is_held_right.kp, (F_is_held_right.binds fun _ _ _ _ _ _ us hl => match us, hl with | [_, _, _], _ => rfl)⟩
    have mPT : M0 (PySem.Challenge.rw_onerun_k01_logs_read).prog w K mg base 2 (ga K "Checker") "problem_of_thread" ["self", "thread", "word", "name"] (spPT K (ga K "Checker")) := ⟨_, _, ok_problem_of_thread F_Checker_problem_of_thread T TC cEnds, meth_ok (fa2 _ (by simp [chkFa])), (F_Checker_problem_of_thread.binds fun _ _ _ _ _ _ us hl => match us, hl with | [_, _, _, _], _ => rfl)⟩
    have mPr : M0 (PySem.Challenge.rw_onerun_k01_logs_read).prog w K mg base 3 (ga K "Checker") "problem_of" ["self", "thread", "at", "event", "held"] (spPr K (ga K "Checker")) := ⟨_, _, ok_problem_of F_Checker_problem_of T TC cEvent cKind cHeld mPT, meth_ok (fa2 _ (by simp [chkFa])), (F_Checker_problem_of.binds fun _ _ _ _ _ _ us hl => match us, hl with | [_, _, _, _, _], _ => rfl)⟩
    have mCT : M0 (PySem.Challenge.rw_onerun_k01_logs_read).prog w K mg base 4 (ga K "Checker") "check_thread" ["self", "thread"] (spCT K (ga K "Checker")) := ⟨_, _, ok_check_thread F_Checker_check_thread T TC cName mPr, meth_ok (fa2 _ (by simp [chkFa])), (F_Checker_check_thread.binds fun _ _ _ _ _ _ us hl => match us, hl with | [_, _], _ => rfl)⟩
    have kCk : K0 (PySem.Challenge.rw_onerun_k01_logs_read).prog w K mg base 2 (ga K "Checker") "Checker" ["self", "rows"] (spCI K (ga K "Checker")) := ⟨_, _, ok_checker_init F_Checker_init T TC cName, mkr_ok (fa2 _ (by simp [chkFa])), glo_ok X G (fa2 _ (by simp [chkFa])), (F_Checker_init.binds fun _ _ _ _ _ _ us hl => match us, hl with | [_, _], _ => rfl)⟩
    have mCk : M0 (PySem.Challenge.rw_onerun_k01_logs_read).prog w K mg base 5 (ga K "Checker") "check" ["self"] (spCk K (ga K "Checker") TT) := ⟨_, _, ok_check F_Checker_check T TC TBk hm1 hu1 mCT, meth_ok (fa2 _ (by simp [chkFa])), (G_Checker_check.binds fun _ _ _ _ _ _ us hl => match us, hl with | [_], _ => rfl)⟩
    have mCF : M0 (PySem.Challenge.rw_onerun_k01_logs_read).prog w K mg base 2 (ga K "Log") "check_first" ["self", "first"] (spCF K (ga K "Log") TT) := ⟨_, _, ok_check_first F_Log_check_first T TL TBf hm2 hu2 cInt, meth_ok (fa3 _ (by simp [logFa])), (G_Log_check_first.binds fun _ _ _ _ _ _ us hl => match us, hl with | [_, _], _ => rfl)⟩
    have cHA : C0 (PySem.Challenge.rw_onerun_k01_logs_read).prog w K mg base 1 "held_after" ["row"] (spHA K) := ⟨_, _, ok_held_after F_held_after T, glo_ok X G (fa4 _ (by simp)), F_held_after.kp, (F_held_after.binds fun _ _ _ _ _ _ us hl => match us, hl with | [_], _ => rfl)⟩
    have cRA : C0 (PySem.Challenge.rw_onerun_k01_logs_read).prog w K mg base 1 "raised_after" ["row"] (spRA K) := ⟨_, _, ok_raised_after F_raised_after T, glo_ok X G (fa4 _ (by simp)), F_raised_after.kp, (F_raised_after.binds fun _ _ _ _ _ _ us hl => match us, hl with | [_], _ => rfl)⟩
    have bLog : Binds K fd_Log_init ["self", "rows", "first"] [] := by
      obtain ⟨ds, v, b⟩ := F_Log_init'.binds1 (ps := ["self", "rows", "first"]) 3 1 (by simp [d_Log_init, DefD.dvs]) rfl (fun T kV doc pm an cdv ct us its h1 h2 => match us, its, h1, h2 with | [_, _, _], [_], _, _ => ⟨_, rfl, rfl⟩)
      cases v
      exact b
    have kLog : K0 (PySem.Challenge.rw_onerun_k01_logs_read).prog w K mg base 6 (ga K "Log") "Log" ["self", "rows", "first"] (spLI K (ga K "Log") TT) := ⟨_, _, ok_log_init F_Log_init T TC TL kCk mCk cKind mCF cHA cRA, mkr_ok (fa3 _ (by simp [logFa])), mgL, bLog⟩
    have TB : ErrC (PySem.Challenge.rw_onerun_k01_logs_read).prog w K mg base (ga K "BadEvent") "BadEvent" ["e"] ["self", "e"] (fAd K ("BadEvent", some "__init__")) fd_BadEvent_init := ⟨oexAll_ok x4, eqO_ok x6, of_decide_eq_true x7, ok_badevent F_BadEvent_init (oexAll_ok x4) (noat_ok (fa5 _ (by simp))), (F_BadEvent_init.binds fun _ _ _ _ _ _ us hl => match us, hl with | [_, _], _ => rfl), glo_ok X G (fa5 _ (by simp))⟩
    have cWE : C0 (PySem.Challenge.rw_onerun_k01_logs_read).prog w K mg base 3 "want_event" ["log", "e"] (spWE K (ga K "Log")) := ⟨_, _, ok_want_event0 F_want_event T TL cInt, glo_ok X G (fa4 _ (by simp)), F_want_event.kp, (F_want_event.binds fun _ _ _ _ _ _ us hl => match us, hl with | [_, _], _ => rfl)⟩
    have cWX : Cal (PySem.Challenge.rw_onerun_k01_logs_read).prog w K mg base (L2.CX (PySem.Challenge.rw_onerun_k01_logs_read).prog w) 3 "want_event" _ _ ["log", "e"] (spWX K (ga K "Log") (ga K "BadEvent")) := ⟨ok_want_eventX F_want_event T TL TB cInt, glo_ok X G (fa4 _ (by simp)), F_want_event.kp, (F_want_event.binds fun _ _ _ _ _ _ us hl => match us, hl with | [_, _], _ => rfl)⟩
    have mEv : M0 (PySem.Challenge.rw_onerun_k01_logs_read).prog w K mg base 4 (ga K "Log") "event" ["self", "e"] (spEv K (ga K "Log")) := ⟨_, _, ok_event0 F_Log_event T TL cWE, meth_ok (fa3 _ (by simp [logFa])), (F_Log_event.binds fun _ _ _ _ _ _ us hl => match us, hl with | [_, _], _ => rfl)⟩
    have mEvX : CalM (PySem.Challenge.rw_onerun_k01_logs_read).prog w K mg base (L2.CX (PySem.Challenge.rw_onerun_k01_logs_read).prog w) 4 (ga K "Log") "event" _ _ ["self", "e"] (spEvX K (ga K "Log") (ga K "BadEvent")) := ⟨ok_eventX F_Log_event T TL cWX, meth_ok (fa3 _ (by simp [logFa])), (F_Log_event.binds fun _ _ _ _ _ _ us hl => match us, hl with | [_, _], _ => rfl)⟩
    have mTh : M0 (PySem.Challenge.rw_onerun_k01_logs_read).prog w K mg base 1 (ga K "Log") "threads" ["self"] (spTh K (ga K "Log")) := ⟨_, _, ok_threads F_Log_threads T TL, meth_ok (fa3 _ (by simp [logFa])), (F_Log_threads.binds fun _ _ _ _ _ _ us hl => match us, hl with | [_], _ => rfl)⟩
    have mEvs : M0 (PySem.Challenge.rw_onerun_k01_logs_read).prog w K mg base 1 (ga K "Log") "events" ["self"] (spEvs K (ga K "Log")) := ⟨_, _, ok_events F_Log_events T TL, meth_ok (fa3 _ (by simp [logFa])), (F_Log_events.binds fun _ _ _ _ _ _ us hl => match us, hl with | [_], _ => rfl)⟩
    have mOb : M0 (PySem.Challenge.rw_onerun_k01_logs_read).prog w K mg base 1 (ga K "Log") "objects" ["self"] (spOb K (ga K "Log")) := ⟨_, _, ok_objects F_Log_objects T TL, meth_ok (fa3 _ (by simp [logFa])), (F_Log_objects.binds fun _ _ _ _ _ _ us hl => match us, hl with | [_], _ => rfl)⟩
    have mEq : CalM (PySem.Challenge.rw_onerun_k01_logs_read).prog w K mg base CX0 1 (ga K "Log") "__eq__" _ _ ["self", "other"] (spLEq K (ga K "Log")) := ⟨ok_log_eq F_Log_eq T TL TQ, meth_ok (fa3 _ (by simp [logFa])), (F_Log_eq.binds fun _ _ _ _ _ _ us hl => match us, hl with | [_, _], _ => rfl)⟩
    have TE := eqc_of mEq.me x3
    have cWell : C0 (PySem.Challenge.rw_onerun_k01_logs_read).prog w K mg base 1 "_law_well" ["_law_cell"] spWell := ⟨_, _, ok_law_well F_law_well T, glo_ok X G (fa4 _ (by simp)), F_law_well.kp, (F_law_well.binds fun _ _ _ _ _ _ us hl => match us, hl with | [_], _ => rfl)⟩
    have cDraw : C0 (PySem.Challenge.rw_onerun_k01_logs_read).prog w K mg base 1 "_law_draw" ["_law_well_here", "_law_many"] spDraw := ⟨_, _, ok_law_draw F_law_draw T, glo_ok X G (fa4 _ (by simp)), F_law_draw.kp, (F_law_draw.binds fun _ _ _ _ _ _ us hl => match us, hl with | [_, _], _ => rfl)⟩
    have cOne : C0 (PySem.Challenge.rw_onerun_k01_logs_read).prog w K mg base 2 "_law_one" ["_law_well_here", "_law_some"] (spOne K) := ⟨_, _, ok_law_one F_law_one T cDraw, glo_ok X G (fa4 _ (by simp)), F_law_one.kp, (F_law_one.binds fun _ _ _ _ _ _ us hl => match us, hl with | [_, _], _ => rfl)⟩
    have cWords : C0 (PySem.Challenge.rw_onerun_k01_logs_read).prog w K mg base 1 "_law_words" [] spWords := ⟨_, _, ok_law_words F_law_words T, glo_ok X G (fa4 _ (by simp)), F_law_words.kp, (F_law_words.binds fun _ _ _ _ _ _ us hl => match us, hl with | [], _ => rfl)⟩
    have cAll : C0 (PySem.Challenge.rw_onerun_k01_logs_read).prog w K mg base 1 "_law_all" ["_law_rows"] (spAll K) := ⟨_, _, ok_law_all F_law_all T, glo_ok X G (fa4 _ (by simp)), F_law_all.kp, (F_law_all.binds fun _ _ _ _ _ _ us hl => match us, hl with | [_], _ => rfl)⟩
    have cEv : C0 (PySem.Challenge.rw_onerun_k01_logs_read).prog w K mg base 3 "_law_event" ["_law_well_here", "_law_world", "_law_thread", "_law_words_here"] (spLE K) := ⟨_, _, ok_law_event F_law_event T cDraw cOne, glo_ok X G (fa4 _ (by simp)), F_law_event.kp, (F_law_event.binds fun _ _ _ _ _ _ us hl => match us, hl with | [_, _, _, _], _ => rfl)⟩
    have cHap : C0 (PySem.Challenge.rw_onerun_k01_logs_read).prog w K mg base 1 "_law_happen" ["_law_world", "_law_thread", "_law_event_here"] (spLH K) := ⟨_, _, ok_law_happen F_law_happen T, glo_ok X G (fa4 _ (by simp)), F_law_happen.kp, (F_law_happen.binds fun _ _ _ _ _ _ us hl => match us, hl with | [_, _, _], _ => rfl)⟩
    have cRec : C0 (PySem.Challenge.rw_onerun_k01_logs_read).prog w K mg base 4 "_law_record" ["_law_well_here", "_law_many", "_law_size", "_law_words_here"] (spRec K) := ⟨_, _, ok_law_record F_law_record T cDraw cOne cEv cHap cAll, glo_ok X G (fa4 _ (by simp)), F_law_record.kp, (F_law_record.binds fun _ _ _ _ _ _ us hl => match us, hl with | [_, _, _, _], _ => rfl)⟩
    have cTurn : C0 (PySem.Challenge.rw_onerun_k01_logs_read).prog w K mg base 2 "_law_turned" ["_law_well_here", "_law_table"] (spTurn K) := ⟨_, _, ok_law_turned F_law_turned T cDraw, glo_ok X G (fa4 _ (by simp)), F_law_turned.kp, (F_law_turned.binds fun _ _ _ _ _ _ us hl => match us, hl with | [_, _], _ => rfl)⟩
    have cRef : C0 (PySem.Challenge.rw_onerun_k01_logs_read).prog w K mg base 5 "_law_refused" ["_law_log", "_law_thing"] (spRef K (ga K "Log")) := ⟨_, _, ok_law_refused F_law_refused T TL TB (xfB_ok x5) (noat_ok (fa5 _ (by simp))) (exm_ok (fa5 _ (by simp))) mEvX, glo_ok X G (fa4 _ (by simp)), F_law_refused.kp, (F_law_refused.binds fun _ _ _ _ _ _ us hl => match us, hl with | [_, _], _ => rfl)⟩
    have cRead : C0 (PySem.Challenge.rw_onerun_k01_logs_read).prog w K mg base 5 "_law_is_read" ["_law_log", "_law_rows"] (spRead K (ga K "Log")) := ⟨_, _, ok_law_is_read F_law_is_read T TL cAll mTh mEvs mOb mEv, glo_ok X G (fa4 _ (by simp)), F_law_is_read.kp, (F_law_is_read.binds fun _ _ _ _ _ _ us hl => match us, hl with | [_, _], _ => rfl)⟩
    exact ok_law F_law T TL TE mEq cWords cWell cDraw cOne cRec cTurn cAll cRead cRef kLog mTh mEvs mOb
end K1

namespace K1
open PySem L2 He Hx
theorem run (w : World) : HandSHeadRun.RunEq R (PySem.W.view R.prog [39]) hk ob 30000 loose w := by
  intro os
  kernel_rfl
end K1
open PySem PySem.W PySem.Calls PyProof.Rows
theorem PySem.Challenge.cw_onerun_k01_logs_read_holds : PySem.Challenge.rw_onerun_k01_logs_read.Holds := by
  w_on; o_law
  refine HandSHeadRun.head_any (r := K1.R) (q := view K1.R.prog [39]) (H := K1.hk) (ob := K1.ob) (M := 30000) (loose := K1.loose) (d := HandSHeadRun.topDef K1.R.prog 39) (kwd := []) K1.ob_eq
    (by kernel_rfl) (fun s => by kernel_rfl) K1.run (by kernel_rfl) (by kernel_rfl) (by kernel_rfl) (by rfl) (by first | assumption | decide +kernel) (by decide +kernel) ⟨rfl, rfl, rfl, rfl, rfl, by decide +kernel⟩ ?hw ?hc
  case hw => w_witness2
  case hc =>
    refine LamX.walk_ofTsE (l := PySem.Challenge.rw_onerun_k01_logs_read) (n := 63) (k := 9) (x := "_law_script") (CX := fun _ => L2.CX0) rfl (by decide) (by kernel_rfl) ⟨rfl, by decide, by decide⟩ ?F (fun _ _ _ _ _ z => z)
    intro w mg fa h Y G hmg0
    obtain ⟨K, KX, c⟩ := Y
    have hmg : mg ("law" : PySem.Str) = some (.ref fa) := by
      have e : (HandSHeadRun.topDef K1.R.prog 39).name = ("law" : PySem.Str) := by kernel_rfl
      rw [← e]
      exact hmg0
    exact ⟨K, KX, K1.facts KX G hmg c⟩
