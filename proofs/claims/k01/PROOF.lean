import PyProof.Rows.All
import Wide.All
import OpenK.AllK
import Wide.FinOn
import HandS.ForMost
import HandS.Exc
import HandS.ExcOwn
import HandS.TryOnly
import HandS.IsInst
import HandS.Deep
import HandS.Wide
import HandS.WideBits
import HandS.TupAny
import HandS.Flow
import HandS.Style
import HandS.Walk
import HandS.WordsExc
import HandS.ExcInit
import HandS.ExcField
import HandS.ExcIs
import HandS.Ends
import KE.KExcSuper
import HandS.ExcValue
import HandS.ExcSuper
import KE.KExcIs
import HandS.More
import HandS.CallRecv
import PySem.Challenge.RW_depthquestions_k01_errors_by_their_class
set_option Elab.async false
set_option linter.all false
set_option maxRecDepth 100000
set_option maxHeartbeats 3900000
namespace MPX
open PySem PySem.W PySem.Calls PyProof.Rows PySem.Spec PySem.HandSPX
/-! ## an own error's __init__: super().__init__(); self.value = value -/
abbrev iBody (p : Nat → Pos) : List PySem.Stmt := [.Expr (.Call (.Attribute (.Call (.Name "super" (p 0)) [] [] (p 1)) "__init__" (p 2)) [] [] (p 3)) (p 4), .Assign [.Attribute (.Name "self" (p 5)) "value" (p 6)] (.Name "value" (p 7)) (p 8)]
abbrev iPar (p : Nat → Pos) : Arguments := { posonlyargs := [], args := [{ arg := "self", annotation := none, pos := p 0 }, { arg := "value", annotation := none, pos := p 1 }], vararg := none, kwonlyargs := [], kw_defaults := [], kwarg := none, defaults := [.Constant .none 0 (p 2)] }
abbrev iSc : Scope := { kind := .function, names := [(PySem.Str.ofString "self", .local), (PySem.Str.ofString "value", .local), (PySem.Str.ofString "__class__", .free), (PySem.Str.ofString "super", .globalImplicit)], isGenerator := false, isCoroutine := false, more := [] }
structure SxT (prog : Program) (K : Frag) (C : Addr) : Prop where
  cls : ∃ nm qn N bs bm sn sub ab col dd k0 k1 k2 k3 k5, K.lookup C = some (excClassObj nm qn C N bs bm true sn sub ab col dd k0 k1 k2 k3 k5 "ValueError.__new__") ∧ refsVE bm = true
  sa : findIn K (.ref C) "__setattr__" = some (some (.builtin "object.__setattr__"))
  noN : findIn K (.ref C) "value" = some none
  kC : keepIn K (.ref C) = true
  exC : subIn K (.ref C) (.type "BaseException") = some true
  tyC : typeIn K (.ref C) = some (.type "type")
  subB : subIn K (.ref C) (.type "ValueError") = some true
  own : mroIn K C (.ref C) = some true
  sup : ks_superIn K C C "__init__" = some (some (.builtin "ValueError.__init__"))
  exI : excInitIn K C (veTail) "ValueError.__new__" = true
  st0 : nsIn K cStatics "thirdparty.any" = some none
  supG : nsIn K mainGlobals "super" = some none
  top : (prog.main.scope.names.lookup ("super" : Str)).isSome = false
  fn : ∃ (fI cc cda : Addr) (q : Str) (oc : Value) (od : Option Addr) (td : Addr) (doc pm : Value) (an : Option Addr) (ct : Value) (osl : Array (Option Value)) (p p' : Nat → Pos),
    findIn K (.ref C) "__init__" = some (some (.ref fI)) ∧ typeIn K (.ref fI) = some (.type "function") ∧
    K.lookup fI = some ⟨oc, od, .func (ksFn "__init__" q (iPar p') (iBody p) iSc (.ref td) .none doc pm an (.ref cda) ct cc), osl⟩ ∧ codeIn K (.ref cda) q = true ∧ ((p 2).endLine == (p 3).line) = true ∧
    (∃ ccl cdd vs ccs file tf, K.lookup cda = some ⟨ccl, cdd, .fields vs, ccs⟩ ∧ vs[2]? = some (.str file tf) ∧ ((prog.main.file : Str) == file) = true) ∧
    (∃ cl cld csl, K.lookup cc = some ⟨cl, cld, .cell (some (.ref C)), csl⟩) ∧ (∃ to tod tsl tn, K.lookup td = some ⟨to, tod, .seq #[.none] tn, tsl⟩)
section
variable {prog : Program} {w : World} {A : Around} {R : Result → Shared → Prop} {s : Shared} {K : Frag} {C : Addr}
theorem sx_node {body : List Stmt} {q : Str} {scope : Scope} {p0 p1 : Pos} {attr : Str} {whole : Sem Value} {fd : FuncData} {ar : Arg} {vs : Array Value} {file : Str} {tf : Tok} {oc ccl cl : Value} {od cdd cld : Option Addr} {osl ccs csl : Array (Option Value)} {cdD : ClassData} {Q : Value → Shared → Prop}
    {h₀ : Heap} {L f cda cc D x : Addr} {m mg mb : Str → Option Value} {news : List (Addr × Obj)} {ox : Obj} {odx : Option Obj} {E : Value → Shared → Prop}
    (F : Fr h₀ L s.heap m) (X₀ : K.In h₀) (N : News h₀ L s.heap news) (Tg : h₀.Ns mainGlobals mg) (Tb : h₀.Ns builtinsNs mb) (Tbb : ∀ x : Str, x ≠ "__name__" → mb x = bootBuiltins x)
    (hf : K.lookup f = some ⟨oc, od, .func fd, osl⟩) (hp : (fd.params.posonlyargs ++ fd.params.args).head? = some ar) (hv : m ar.arg = some (.ref x)) (I : InstAt s.heap x ox C odx)
    (hcode : K.lookup cda = some ⟨ccl, cdd, .fields vs, ccs⟩) (hvs : vs[2]? = some (.str file tf)) (hfile : ((prog.main.file : Str) == file) = true)
    (hcell : K.lookup cc = some ⟨cl, cld, .cell (some (.ref D)), csl⟩) (hD : clsIn K D = some cdD) (hsub : mroIn K C (.ref D) = some true) (hsuper : nsIn K mainGlobals "super" = some none)
    (hat : (attr == ("__class__" : Str)) = false) (hks : scope.names.lookup ("super" : Str) = some .globalImplicit) (hkc : scope.names.lookup ("__class__" : Str) = some .free) (hka : scope.names.lookup ar.arg = some .local) (hk : scope.kind = .function)
    (htop : (prog.main.scope.names.lookup ("super" : Str)).isSome = false) (hboot : bootBuiltins "super" = some (.type "super"))
    (h : ∀ so h', Fr h₀ L h' m → News h₀ L h' ((so, ks_superObj D x C) :: news) → (∀ p ∈ news, p.1 < so) → (∀ b o, s.heap.get? b = some o → h'.get? b = some o) → Q (.ref so) { s with heap := h' }) :
    _root_.PySem.wpAt (model prog w) A (.func body (ksEnv q scope L f (.ref cda) cc)) (attributeBase (.Call (.Name "super" p0) [] [] p1) attr (ksEnv q scope L f (.ref cda) cc) whole) Q E s := by
  have X : K.In s.heap := X₀.keeps F.keep
  obtain ⟨hh, g, d, t, os⟩ := s
  obtain ⟨oD, hD1, hD2⟩ : ∃ oD, hh.get? D = some oD ∧ oD.data = .cls cdD := by
    unfold clsIn at hD
    split at hD
    · rename_i c d cd' sl ho
      cases hD
      exact ⟨_, X _ _ ho, rfl⟩
    · cases hD
  refine ks_wpAt_super_base (env := ksEnv q scope L f (.ref cda) cc) hks hkc hat rfl (X _ _ hf) rfl hp rfl (X _ _ hcode) rfl hvs hfile htop ?_
  refine ks_loadName_global hk hks (loadGlobal_builtin (env := ksEnv q scope L f (.ref cda) cc) (Tg.keeps F.keep) (mg_none_of X₀ Tg hsuper) (Tb.keeps F.keep) ((Tbb _ (by decide +kernel)).trans hboot) ⟨rfl, ?_⟩)
  refine wpAny_loadName_free hk hkc rfl ⟨_, X _ _ hcell, rfl⟩ ?_
  refine wpAny_loadName_local hk hka F.ns hv ?_
  refine ks_wpAny_isType_cls hD1 hD2 ⟨rfl, ?_⟩
  refine ks_wpAny_call_super hD1 hD2 I.at_ I.cls (fun c e => ?_) (looks_mroIn X hsub) (fun h' e k => ?_)
  · have := I.no
    unfold notCls at this
    rw [e] at this
    exact Bool.noConfusion this
  · obtain ⟨F', N', l'⟩ := ks_newsPush (s := ⟨hh, g, d, t, os⟩) F N rfl e k
    exact h _ _ F' N' l' k
theorem he_line {o : PySem.Expr} {name : Str} {apos pos : Pos} {env : Env} (hline : (apos.endLine == pos.line) = true) : eval (.Call (.Attribute o name apos) [] [] pos) env = (do
    let ov ← attributeBase o name env (eval o env)
    standAt apos.atName
    let (f, first) ← holding [ov] (getMethod ov name (do return (← importBound o env).getD true))
    callWith pos f first (backTo pos (starEach [] env)) []) := by
  rw [arm_eval_Call]
  have hpos : methodCallPos true o env apos pos = pure pos := by unfold methodCallPos; simp [hline]
  have hf : methodCallForm (0 + 0) (backTo pos (starEach [] env)) (backToKw pos (keywordEach [] env)) = true := rfl
  have hm : ∀ ov, methodCall o name apos pos env ov (([] : List PySem.Expr).length + ([] : List Keyword).length) (backTo pos (starEach [] env)) (backToKw pos (keywordEach [] env)) = (do
      let (f, first) ← holding [ov] (getMethod ov name (do return (← importBound o env).getD true))
      callWith pos f first (backTo pos (starEach [] env)) []) := fun ov => by
    unfold methodCall
    show (do
      let (f, first) ← holding [ov] (calleeOf true o env ov name)
      let callPos ← methodCallPos true o env apos pos
      callWith callPos f first (backTo pos (starEach [] env)) []) = _
    rw [hpos]
    rfl
  simp only [hm]
theorem sx_init {hp : Heap} {x t0 fI cc cda td : Addr} {q : Str} {oc doc pm ct v : Value} {od an : Option Addr} {osl : Array (Option Value)} {p p' : Nat → Pos} {args : Args} {mg mb : Str → Option Value}
    (T : SxT prog K C) (lf : K.lookup fI = some ⟨oc, od, .func (ksFn "__init__" q (iPar p') (iBody p) iSc (.ref td) .none doc pm an (.ref cda) ct cc), osl⟩) (hcd : codeIn K (.ref cda) q = true)
    (code : ∃ ccl cdd vs ccs file tf, K.lookup cda = some ⟨ccl, cdd, .fields vs, ccs⟩ ∧ vs[2]? = some (.str file tf) ∧ ((prog.main.file : Str) == file) = true) (cell : ∃ cl cld csl, K.lookup cc = some ⟨cl, cld, .cell (some (.ref C)), csl⟩)
    (X : K.In hp) (k0 : ∀ b o, hp.get? b = some o → s.heap.get? b = some o) (hsz : hp.objs.size ≤ s.heap.objs.size) (xn : hp.get? x = none) (hx : s.heap.get? x = some (excO C t0)) (Tg : hp.Ns mainGlobals mg) (Tb : hp.Ns builtinsNs mb) (Tbb : ∀ x : Str, x ≠ "__name__" → mb x = bootBuiltins x)
    (hlim : s.heap.NoLimit) (hroom : A.depth < recursionLimit) (hline : ((p 2).endLine == (p 3).line) = true) (hb : BindsTo s (ksFn "__init__" q (iPar p') (iBody p) iSc (.ref td) .none doc pm an (.ref cda) ct cc) args [("self", .ref x), ("value", v)])
    (hq : ∀ h' tk dx t1, (∀ b o, hp.get? b = some o → h'.get? b = some o) → hp.objs.size ≤ dx → dx ≠ x → h'.get? x = some ({ cls := .ref C, dict := some dx, data := .fields #[.ref t1, .none, .none, .none, .bool false, .none] } : Obj) →
      h'.Ns1 dx (fun y => if y = "value" then some v else none) → R (.ok (.ret .none)) { s with heap := h', toks := tk }) :
    codeAny (model prog w) A (.call (.ref fI) args) R s := by
  obtain ⟨nm, qn, N, bs, bm, sn, sub, ab, col, dd, c0, c1, c2, c3, c5, hC, hbm⟩ := T.cls
  have hcl : clsIn K C = some { name := nm, bases := bs, mro := .ref C :: bm, ns := N, qualname := qn, hasDict := true, slotNames := sn, subclasses := sub, abstract := ab, collection := col, hasDel := false } := by unfold clsIn; rw [hC] <;> rfl
  obtain ⟨ccl, cdd, vs, ccs, file, tf, lc, hvs, hfile⟩ := code
  obtain ⟨cl, cld, csl, lcell⟩ := cell
  have X1 : K.In s.heap := X.keeps k0
  refine ks_codeAny_call_defAt (binds := [("self", .ref x), ("value", v)]) hroom (X1 _ _ lf) rfl hlim (codeRec_of X1 hcd) rfl hb (show ∀ y ∈ iSc.names, y.2 ≠ .cell from by decide +kernel) (fun y hy => by
    rcases List.mem_cons.mp hy with rfl | hy
    · exact (by decide +kernel : iSc.names.lookup ("self" : Str) = some .local)
    · rcases List.mem_cons.mp hy with rfl | hy
      · exact (by decide +kernel : iSc.names.lookup ("value" : Str) = some .local)
      · cases hy) (fun h₁ hns hk₁ => ?_)
  have Fr1 : Fr hp s.heap.objs.size h₁ (fun y => [(("self" : Str), Value.ref x), (("value" : Str), v)].reverse.lookup y) := ⟨hns, fun b o e => hk₁ b o (k0 b o e), hsz⟩
  have N1 : News hp s.heap.objs.size h₁ [(x, excObj C t0 none .none)] := fun z hz => by
    rw [List.mem_singleton] at hz
    subst hz
    exact ⟨hk₁ _ _ hx, Nat.ne_of_lt (Heap.lt_size hx), xn⟩
  refine ks_wpAt_execs_cons ?_
  refine ks_wpAt_Expr_any (ks_wpAt_MethodCall (sx_node (x := x) (ox := excObj C t0 none .none) (odx := none) Fr1 X N1 Tg Tb Tbb lf rfl rfl ⟨(N1 _ List.mem_cons_self).1, rfl, rfl, trivial⟩ lc hvs hfile lcell hcl T.own T.supG (by decide +kernel) (show iSc.names.lookup ("super" : Str) = _ from by decide +kernel) (show iSc.names.lookup ("__class__" : Str) = _ from by decide +kernel) (show iSc.names.lookup ("self" : Str) = _ from by decide +kernel) rfl T.top (by first | rfl | kernel_rfl) fun so h2 F2 N2 l2 k2 => ?_) (he_line hline)) (by rfl) (by rfl)
  refine kxs_method (x := x) (ox := excObj C t0 none .none) (odx := none) kxs_ValueError F2 X N2 List.mem_cons_self ⟨(N2 _ (.tail _ List.mem_cons_self)).1, rfl, rfl, trivial⟩ T.st0 T.sup T.subB (by decide) fun u h3 F3 N3 l3 => ?_
  refine kxs_callWith0 N3 List.mem_cons_self ?_
  refine kxs_call (t := t0) (dv := none) (c2 := .none) F3 X N3 PySem.F.excBase_ValueError T.exI List.mem_cons_self (.tail (Nat.ne_of_gt (l3 _ (.tail _ List.mem_cons_self))) (.tail (Nat.ne_of_gt (l2 _ List.mem_cons_self)) (.head (fun p hp => nomatch hp)))) (Nat.zero_le _) fun t1 h4 F4 N4 l4 => ?_
  refine wpAt_of_wpAny ?_
  have X4 : K.In h4 := X.keeps F4.keep
  have hx4 : h4.get? x = some (excObj C t1 none .none) := (N4 (x, excObj C t1 none .none) (by simp)).1
  refine wpAny_execs_cons (plainObj_wpAny_Assign_Attribute ?_)
  refine ESX.ldL (v := v) F4.ns (by first | rfl | with_unfolding_all rfl | kernel_rfl) (ESX.ldL (v := .ref x) F4.ns (by first | rfl | with_unfolding_all rfl | kernel_rfl) ?_)
  refine set_plain X4 (ox := excObj C t1 none .none) (od := none) ⟨hx4, rfl, rfl, trivial⟩ T.sa ?_
  refine exc_osa X4 hx4 hcl (show refsVE (.ref C :: bm) = true from hbm) rfl T.noN (fun h5 tk5 dx k5 dn dne hx5 hn5 => ?_)
  refine wpAny_execs_nil (hq h5 _ dx t1 (fun b o e => k5 b o (fun z => by rw [z, xn] at e; cases e) (F4.keep b o e)) ?_ dne hx5 hn5)
  obtain ⟨oL, es, ep, hL, _⟩ := F4.ns
  have e1 : s.heap.objs.size < h4.objs.size := Heap.lt_size (show h4.get? s.heap.objs.size = some oL from hL)
  have e2 : h4.objs.size ≤ dx := dn
  exact Nat.le_trans hsz (Nat.le_trans (Nat.le_of_lt e1) e2)
end
end MPX
namespace MPX
open PySem PySem.W PySem.Calls PyProof.Rows PySem.Spec PySem.HandSPX L2
section
variable {fs ex : List Addr} {H : Hp} {h h' : Heap} {a b : Addr} {o u : HO}
theorem new_ne {c : Addr} {v : Obj} (hb : h.get? b = none) (q : h.get? c = some v) : c ≠ b := fun z => by rw [z, hb] at q; cases q
theorem Un.laid2 (k : ∀ c v, h.get? c = some v → h'.get? c = some v) (ha : h.get? a = none) (hb : h.get? b = none) (na : H a = none) (nb : H b = none) : Un fs ex H (upd (upd H b u) a o) h h' where
  keep := fun c v q _ _ _ => k c v q
  slot := fun c v q _ _ _ => ⟨v.slots, k c v q⟩
  free := fun c v q n _ => by rw [upd_ne (new_ne ha q), upd_ne (new_ne hb q)]; exact n
  there := fun c v q _ => ⟨v, k c v q⟩
  tups := fun c xs q => by rw [upd_ne (ne_of_none q na), upd_ne (ne_of_none q nb)]; exact q
  frzs := fun c v xs q => by rw [upd_ne (ne_of_none q na), upd_ne (ne_of_none q nb)]; exact q
  tbls := fun c ps q => ⟨#[], by rw [upd_ne (ne_of_none q na), upd_ne (ne_of_none q nb), q]; simp⟩
theorem HOk.laid2 {P : Program} {w : World} (x : HOk P w H h) (k : ∀ c v, h.get? c = some v → h'.get? c = some v) (na : H a = none) (nb : H b = none) (oa : ObjOk P w (upd (upd H b u) a o) h' a o) (ob : ObjOk P w (upd (upd H b u) a o) h' b u) : HOk P w (upd (upd H b u) a o) h' := fun c v e => by
  by_cases hc : c = a
  · subst hc
    rw [upd_same] at e
    cases e
    exact oa
  · rw [upd_ne hc] at e
    by_cases hd : c = b
    · subst hd
      rw [upd_same] at e
      cases e
      exact ob
    · rw [upd_ne hd] at e
      exact (x c v e).stay (fun c v _ q => k c v q) (fun c q => by rw [upd_ne (ne_of_none q na), upd_ne (ne_of_none q nb)]; exact q) fun c xs q => by rw [upd_ne (ne_of_none q na), upd_ne (ne_of_none q nb)]; exact q
end
/-- C(e), C an own error whose __init__ keeps the value -/
def tMkV (C : Addr) (ta : TE) : TE := fun σ H Q => ta σ H fun v H1 => ∀ a d, H1 a = none → H1 d = none → d ≠ a → Q (.ref a) (upd (upd H1 d (exd d [("value", v)])) a (exo a C (some d)))
section
variable {X : Cx} {C : Addr} {x : PySem.Str} {e : PySem.Expr} {ta : TE} {p pos : Pos}
theorem relO_value {v : V} {u : Value} (r : RelV v u) (f : PySem.Str) : RelO ([(("value" : PySem.Str), v)].lookup f) (if f = "value" then some u else none) := relO_put (fs := []) (mA := fun _ => none) r (fun _ => trivial) f
theorem made_end {pins : List (Addr × Obj)} {σ : L2.St} {H : Hp} {s : Shared} {h' : Heap} {tk : Nat} {a d t1 : Addr} {v : V} {u : Value} (I : Inv X pins σ H s) (r : RelV v u) (k : ∀ b o, s.heap.get? b = some o → h'.get? b = some o)
    (ha : s.heap.objs.size ≤ a) (hd : s.heap.objs.size ≤ d) (hne : d ≠ a) (ho : h'.get? a = some ({ cls := .ref C, dict := some d, data := .fields #[.ref t1, .none, .none, .none, .bool false, .none] } : Obj)) (hn : h'.Ns1 d (fun y => if y = "value" then some u else none)) :
    Inv X pins σ (upd (upd H d (exd d [("value", v)])) a (exo a C (some d))) { s with heap := h', toks := tk } := by
  have na : H a = none := I.hok.fresh ha
  have nd : H d = none := I.hok.fresh hd
  have g : ∀ {b : Addr}, s.heap.objs.size ≤ b → s.heap.get? b = none := fun {b} hb => by
    cases e : s.heap.get? b with
    | none => rfl
    | some o => exact absurd (Heap.lt_size e) (Nat.not_lt.mpr hb)
  exact I.un (Un.laid2 k (g ha) (g hd) na nd) (HOk.laid2 I.hok k na nd (exo_ok ho) (exd_ok hn (relO_value r)))
theorem call_made {pins : List (Addr × Obj)} {σ : L2.St} {H : Hp} {s : Shared} {E : Value → Shared → Prop} {Q : Value → Shared → Prop} {u : Value} {v : V} {k : Nat} (T : SxT X.prog X.K C) (hr : Room k X.A) (I : Inv X pins σ H s) (r : RelV v u)
    (hq : ∀ a d s', H a = none → H d = none → d ≠ a → Inv X pins σ (upd (upd H d (exd d [("value", v)])) a (exo a C (some d))) s' → Q (.ref a) s') : wpAny (model X.prog X.w) X.A (call (.ref C) [u]) Q E s := by
  obtain ⟨nm, q, N, bs, bm, sn, sub, ab, col, dd, k0, k1, k2, k3, k5, hC, hbm⟩ := T.cls
  obtain ⟨fI, cc, cda, qq, oc, od, td, doc, pm, an, ct, osl, pp, pp', iC, tI, lf, hcd, hline, code, cell, htd⟩ := T.fn
  have hlim := I.nolimit
  have IK := I.kIn
  have M := I.ok.mod
  obtain ⟨mb, hmb, hbb⟩ := M.blt
  obtain ⟨hp, g, dr, tk, os⟩ := s
  have kb : ∀ b o, X.base.get? b = some o → hp.get? b = some o := I.bk
  obtain ⟨to, tod, tsl, tn, htd⟩ := htd
  have kk : ∀ b o, hp.get? b = some o → ((hp.push (PySem.W.kdv_tup [u])).push (PySem.HandSPX.excO C hp.objs.size)).get? b = some o := fun b o e => Heap.get?_push_of_some _ (Heap.get?_push_of_some _ e)
  have hget : ((hp.push (PySem.W.kdv_tup [u])).push (PySem.HandSPX.excO C hp.objs.size)).get? (hp.objs.size + 1) = some (PySem.HandSPX.excO C hp.objs.size) := by heap_get
  have hnone : hp.get? (hp.objs.size + 1) = none := by
    cases e : hp.get? (hp.objs.size + 1) with
    | none => rfl
    | some o => exact absurd (Heap.lt_size e) (Nat.not_lt.mpr (Nat.le_succ _))
  refine wpAny_call (PySem.HandSPX.call_own PySem.F.excBase_ValueError (fun Y => PySem.HandSPX.refsVE_contains Y bm hbm) (IK _ _ hC) (PySem.W.looks_findIn IK iC) (fun self => PySem.W.bind_fn IK self tI) (by show 1 ≤ sizeLine; decide)
    (sx_init (s := ⟨(hp.push (PySem.W.kdv_tup [u])).push (PySem.HandSPX.excO C hp.objs.size), g, dr, tk, os⟩) (hp := hp) (x := hp.objs.size + 1) (t0 := hp.objs.size) (v := u) T lf hcd code cell IK kk (Nat.le_of_lt (Nat.lt_of_le_of_lt (Nat.le_succ _) (Heap.lt_size hget))) hnone hget (M.glob.keeps kb) (hmb.keeps kb) hbb (hlim.keeps kk) ?_ hline ?_ fun h' tk' dx t1 k' hdx hne ho hn => ?_))
  · have := hr.dp
    show X.A.depth + 1 < recursionLimit
    omega
  · exact binds_K (IK.keeps kk) rfl htd rfl rfl rfl
  · refine ⟨rfl, hq (hp.objs.size + 1) dx _ (I.hok.fresh (Nat.le_succ _)) (I.hok.fresh hdx) hne ?_⟩
    exact made_end (s := ⟨hp, g, dr, tk, os⟩) I r k' (Nat.le_succ _) hdx hne ho hn
theorem pe_mkV {k : Nat} (T : SxT X.prog X.K C) (hr : Room k X.A) (hg : Gl X x) (hm : X.mg x = some (.ref C)) (he : PE X e ta)
    (hdb : (x == ("__debug__" : PySem.Str)) = false := by decide) (hs : starEach [e] X.env = (false, eval e X.env) :: starEach [] X.env := by rfl) : PE X (.Call (.Name x p) [e] [] pos) (tMkV C ta) := by
  refine ⟨fun pins s σ H Q I h => ?_⟩
  refine wpAny_Call_Name_kw (ld_glob I hg hm ?_ hdb)
  refine PySem.W.callWith_K (h₀ := X.base) I.ok.mod.kin T.kC ?_ hs (by rfl)
  rw [hs]
  show wpAny _ _ (spliced ((false, eval e X.env) :: backTo pos (starEach [] X.env))) _ _ s
  refine Calls.spliced_cons (thn (he.run pins s σ H _ I h) fun u s1 ⟨v, H1, I1, r1, q1⟩ => ?_)
  refine Calls.spliced_nil ⟨I1.kIn, ?_⟩
  show wpAny _ _ (call (.ref C) [u]) _ _ _
  exact call_made T hr I1 r1 fun a d s' na nd ne J => ⟨.ref a, _, J, rfl, q1 a d na nd ne⟩
/-! ### e.value -/
def tVal (K : PySem.W.Frag) (te : TE) : TE := fun σ H Q => te σ H fun x H1 => ∃ a C d v, x = .ref a ∧ H1 a = some (exo a C (some d)) ∧ H1 d = some (exd d [("value", v)]) ∧ XfC K C ∧ PySem.W.findIn K (.ref C) "value" = some none ∧ Q v H1
theorem pe_val {te : TE} (he : PE X e te) (hb : attributeBase e "value" X.env (eval e X.env) = eval e X.env := by rfl) : PE X (.Attribute e "value" pos) (tVal X.K te) := by
  refine ⟨fun pins s σ H Q I h => ?_⟩
  refine attr_of hb (thn (he.run pins s σ H _ I h) fun u s1 hh => ?_)
  obtain ⟨y, H1, I1, rx, a, C, d, v, rfl, ha, hd, T, hno, q⟩ := hh
  obtain rfl : u = Value.ref a := rx
  obtain ⟨t1, ho⟩ := exo_at I1.hok ha
  obtain ⟨mA, hns, hr⟩ := exd_at I1.hok hd
  obtain ⟨od, hod, hl⟩ := lookIn_ns hns
  have l : [(("value" : PySem.Str), v)].lookup ("value" : PySem.Str) = some v := by simp [List.lookup]
  obtain ⟨w, hw, rw'⟩ := RelO.some_of (v := v) (o := mA "value") (by rw [← l]; exact hr "value")
  have J : PySem.W.InstAt s1.heap a { cls := .ref C, dict := some d, data := .fields #[.ref t1, .none, .none, .none, .bool false, .none] } C (some od) := ⟨ho, rfl, rfl, hod⟩
  exact HandSPX.exc_get I1.kIn J T.ga T.gg T.exC (PySem.W.findObj_own T.hdC hno rfl (by rw [hl, hw])) (handed_of rw') ⟨v, H1, I1.tok _, rw', q⟩
/-! ### isinstance(e, c), e a made error -/
def rIsX (K : PySem.W.Frag) : List V → Hp → VK → Prop := fun xs H Q => ∃ (a D : Addr) (d : Option Addr) (c : V) (cv : Value) (b : Bool), xs = [.ref a, c] ∧ H a = some (exo a D d) ∧ (∀ dd, d = some dd → ∃ fs, H dd = some (exd dd fs)) ∧ ClsV c cv ∧ ExcC K D ∧ PySem.W.kitOne K (.ref D) cv = some b ∧ Q (.bl b) H
theorem call_isX : CallR X (.builtin "isinstance") (rIsX X.K) := by
  intro pins s σ H xs us Q I r h
  obtain ⟨a, D, d, c, cv, b, rfl, ha, hd, hcv, T, e, q⟩ := h
  cases r with
  | cons rx rr =>
    cases rr with
    | cons rt rr =>
      cases rr
      cases rx
      have ec := hcv.eq rt
      subst ec
      obtain ⟨t1, ho⟩ := exo_at I.hok ha
      have hcl : (PySem.W.clsIn X.K D).isSome = true := by
        have := T.hd
        obtain ⟨cd, hc, _⟩ := PySem.W.any_some this
        rw [hc]; rfl
      cases d with
      | none =>
        have J : PySem.W.InstAt s.heap a { cls := .ref D, dict := none, data := .fields #[.ref t1, .none, .none, .none, .bool false, .none] } D none := ⟨ho, rfl, rfl, trivial⟩
        exact PySem.W.kia_one (PySem.W.kitx_exc hcl T.hg T.hk T.hs T.ha T.hn T.ht T.hm) I.kIn J e (fun z => nomatch z) fun tk => ⟨.bl b, H, I.kept (t' := tk) fun _ _ z => z, rfl, q⟩
      | some dd =>
        obtain ⟨fs, hdd⟩ := hd dd rfl
        obtain ⟨mA, hns, hr⟩ := exd_at I.hok hdd
        obtain ⟨od, hod, hl⟩ := lookIn_ns hns
        have J : PySem.W.InstAt s.heap a { cls := .ref D, dict := some dd, data := .fields #[.ref t1, .none, .none, .none, .bool false, .none] } D (some od) := ⟨ho, rfl, rfl, hod⟩
        exact PySem.W.kia_one (PySem.W.kitx_exc hcl T.hg T.hk T.hs T.ha T.hn T.ht T.hm) I.kIn J e (fun z => nomatch z) fun tk => ⟨.bl b, H, I.kept (t' := tk) fun _ _ z => z, rfl, q⟩
end
end MPX
namespace MPX
open PySem PySem.W PySem.Calls PyProof.Rows PySem.Spec PySem.HandSPX L2
section
variable {M : Model} {A : Around} {E : Value → Shared → Prop} {h : Heap} {g : Array GenState} {d : Drawn} {t : Nat} {os : OsState}
variable {nm q : PySem.Str} {C N : Addr} {bs bm bmB : List Value} {hdct : Bool} {sn : List PySem.Str} {sub : List Value} {ab : Bool} {col : Option Bool} {dd : Option Addr} {k0 k1 k2 k3 k5 : Option Value} {B newId initId : String}
theorem check_new_kw (F : ExcBaseFacts B newId initId bmB) (hT : ∀ X : String, bm.contains (.type X) = bmB.contains (.type X)) {v : Value} {Q : Unit → Shared → Prop}
    (hC : h.get? C = some (excClassObj nm q C N bs bm hdct sn sub ab col dd k0 k1 k2 k3 k5 newId)) (hq : Q () ⟨h, g, d, t, os⟩) : wpAny M A (checkBuiltinCall newId ⟨[.ref C], [("value", v)]⟩) Q E ⟨h, g, d, t, os⟩ := by
  have hcont : (Value.ref C :: bm).contains (.type B) = true := by rw [List.contains_cons, hT, F.hasB, Bool.or_true]
  have hstar := F.noStar
  simp only [checkBuiltinCall, F.newKind, F.newSplit, F.newRow]
  repeat (first | refine wpAny_loadPart_at hC ?_ | (refine wpAny_isSubtype_exc hC ?_; rw [hcont]) | refine wpAny_staticBase_exc hC ?_ | refine wpAny_madeBy_exc hC ?_ | simp only [bne_self_eq_false, Bool.false_eq_true, if_false] | wp_step)
  exact hq
theorem check_type_kw {v : Value} {Q : Unit → Shared → Prop} (hC : h.get? C = some (excClassObj nm q C N bs bm hdct sn sub ab col dd k0 k1 k2 k3 k5 newId))
    (hq : Q () ⟨h, g, d, t, os⟩) : wpAny M A (checkBuiltinCall "type.__call__" ⟨[.ref C], [("value", v)]⟩) Q E ⟨h, g, d, t, os⟩ := by
  have f3 := tc_sub
  have hT : (⟨h, g, d, t, os⟩ : Shared).TypeIs (.ref C) "type" := ⟨_, hC, rfl⟩
  simp only [checkBuiltinCall, tc_kind, tc_split]
  repeat (any_goals (first | assumption | with_reducible refine wpAny_loadPart_at hC ?_ | with_reducible refine wpAny_onRaise ?_ | with_reducible refine wpAny_map ?_ | wp_step))
end
section
variable {prog : Program} {w : World} {A : Around} {E : Value → Shared → Prop} {R : Result → Shared → Prop} {h : Heap} {g : Array GenState} {d : Drawn} {t : Nat} {os : OsState}
variable {nm q : PySem.Str} {C N : Addr} {bs bm bmB : List Value} {hdct : Bool} {sn : List PySem.Str} {sub : List Value} {ab : Bool} {col : Option Bool} {dd : Option Addr} {k0 k1 k2 k3 k5 : Option Value} {B newId initId : String}
theorem new_kw (F : ExcBaseFacts B newId initId bmB) (hT : ∀ X : String, bm.contains (.type X) = bmB.contains (.type X)) {v : Value}
    (hC : h.get? C = some (excClassObj nm q C N bs bm hdct sn sub ab col dd k0 k1 k2 k3 k5 newId))
    (hq : R (.ok (.ret (.ref (h.objs.size + 1)))) ⟨(h.push { cls := .type "tuple", data := .seq #[] }).push
      { cls := .ref C, data := .fields #[.ref h.objs.size, .none, .none, .none, .bool false, .none] }, g, d, t, os⟩) :
    codeAny (model prog w) A (.builtin newId ⟨[.ref C], [("value", v)]⟩) R ⟨h, g, d, t, os⟩ := by
  have hends := F.ends
  have hcB : (Value.ref C :: bm).contains (.type B) = true := by rw [List.contains_cons, hT, F.hasB, Bool.or_true]
  have hcA : (Value.ref C :: bm).contains (.type "AttributeError") = false := by rw [List.contains_cons, hT, F.noAttr]; rfl
  have hcN : (Value.ref C :: bm).contains (.type "NameError") = false := by rw [List.contains_cons, hT, F.noName]; rfl
  refine codeAny_builtinAt F.entry ?_
  unfold Builtin.«BaseException.__new__»
  refine PySem.wpAt_bind ?_
  show PySem.wpAt _ _ _ (stack >>= _) _ _ _
  refine PySem.wpAt_bind (PySem.wpAt_stack fun p below => PySem.wpAt_of_wpAny ?_)
  wp_walk
  refine PySem.wpAt_of_wpAny ?_
  rw [F.owner]
  repeat (first | with_reducible refine wpAny_madeHere_exc F.canon hC ?_ | with_reducible refine wpAny_loadPart_at hC ?_ | (with_reducible refine wpAny_isSubtype_exc hC ?_; first | rw [hcB] | rw [hcA] | rw [hcN]) | wp_step)
  show R _ _
  rw [Heap.size_push]
  exact hq
theorem type_call_kw (F : ExcBaseFacts B newId initId bmB) (hT : ∀ X : String, bm.contains (.type X) = bmB.contains (.type X)) {v : Value} {fI : Addr} {Q : Fin → Shared → Prop}
    (hC : h.get? C = some (excClassObj nm q C N bs bm hdct sn sub ab col dd k0 k1 k2 k3 k5 newId))
    (hi : W.Looks (model prog w) h (typeLookup (.ref C) "__init__") (some (.ref fI))) (hb : ∀ self, W.Looks (model prog w) h (bindSpecial (.ref fI) self) (.ref fI, [self]))
    (hq : codeAny (model prog w) A (.call (.ref fI) ⟨[.ref (h.objs.size + 1)], [("value", v)]⟩)
      (fun r s' => match r with | .ok (.ret v) => v = .none ∧ Q (.done (.ret (.ref (h.objs.size + 1)))) s' | .ok _ => False | .error e => E e s')
      ⟨(h.push (W.kdv_tup [])).push (excO C h.objs.size), g, d, t, os⟩) :
    wpAny (model prog w) A (Builtin.«type.__call__» ⟨[.ref C], [("value", v)]⟩) Q E ⟨h, g, d, t, os⟩ := by
  repeat (first | with_reducible refine wpAny_loadPart_at hC ?_ | with_reducible refine wpAny_madeBy_exc hC ?_ | wp_step)
  refine codeAny_call_builtin_code (Code.quiet_builtin _ F.quiet) (check_new_kw F hT hC ?_)
  refine new_kw F hT hC ?_
  show wpAny _ _ _ _ _ _
  have k : ∀ b o, h.get? b = some o → ((h.push (W.kdv_tup [])).push (excO C h.objs.size)).get? b = some o := fun b o e => Heap.get?_push_of_some _ (Heap.get?_push_of_some _ e)
  have hC₁ := k _ _ hC
  have hget : ((h.push (W.kdv_tup [])).push (excO C h.objs.size)).get? (h.objs.size + 1) = some (excO C h.objs.size) := by heap_get
  have hcC : (Value.ref C :: bm).contains (.ref C) = true := by simp
  have i1 := hi.keeps k
  have b1 := (hb (.ref (h.objs.size + 1))).keeps k
  unfold isInstance
  repeat (first | with_reducible refine wpAny_loadPart_at hget ?_ | (with_reducible refine wpAny_isSubtype_exc hC₁ ?_; rw [hcC]) | wp_step)
  show wpAny _ _ (typeLookup (.ref C) _) _ _ _
  refine i1.at ?_
  refine wpAny_holding (wpAny_bind (b1.at ?_))
  refine wpAny_bind (wpAny_call (codeAny_mono hq fun r s' z => ?_))
  rcases r with e | (v | _ | _ | _) <;> first | exact z | exact z.elim | skip
  obtain ⟨rfl, z⟩ := z
  first
    | exact wpAny_pure (wpAny_pure z)
    | (wp_walk; exact z)
theorem call_kw (F : ExcBaseFacts B newId initId bmB) (hT : ∀ X : String, bm.contains (.type X) = bmB.contains (.type X)) {v : Value} {fI : Addr}
    (hC : h.get? C = some (excClassObj nm q C N bs bm hdct sn sub ab col dd k0 k1 k2 k3 k5 newId))
    (hi : W.Looks (model prog w) h (typeLookup (.ref C) "__init__") (some (.ref fI))) (hb : ∀ self, W.Looks (model prog w) h (bindSpecial (.ref fI) self) (.ref fI, [self]))
    (hq : codeAny (model prog w) (A.under (.builtin "type.__call__" ⟨[.ref C], [("value", v)]⟩)) (.call (.ref fI) ⟨[.ref (h.objs.size + 1)], [("value", v)]⟩) (W.InitBack (h.objs.size + 1) R)
      ⟨(h.push (W.kdv_tup [])).push (excO C h.objs.size), g, d, t, os⟩) :
    codeAny (model prog w) A (.call (.ref C) ⟨[], [("value", v)]⟩) R ⟨h, g, d, t, os⟩ := by
  have f1 := tc_lookup
  have f2 := tc_bind (.ref C)
  have hTy : (⟨h, g, d, t, os⟩ : Shared).TypeIs (.ref C) "type" := ⟨_, hC, rfl⟩
  refine codeAny_of_tree ?_
  show wpAny _ _ (callAny (.ref C) _) _ _ _
  repeat (any_goals (first | assumption | with_reducible refine wpAny_loadPart_at hC ?_ | wp_step))
  refine ⟨rfl, ?_⟩
  refine codeAny_call_builtin_at (Code.quiet_builtin _ (by decide +kernel)) entry_typeCall (check_type_kw hC (type_call_kw F hT hC hi hb ?_))
  refine codeAny_mono hq fun r s' z => ?_
  rcases r with e | (v | _ | _ | _) <;> exact z
end
end MPX
namespace MPX
open PySem PySem.W PySem.Calls PyProof.Rows PySem.Spec PySem.HandSPX L2
/-- C(), C(value=e) -/
def tMk0 (C : Addr) : TE := fun _ H Q => ∀ a d, H a = none → H d = none → d ≠ a → Q (.ref a) (upd (upd H d (exd d [("value", .non)])) a (exo a C (some d)))
/-- C(), C an own error without an __init__ -/
def tMkN (C : Addr) : TE := fun _ H Q => ∀ a, H a = none → Q (.ref a) (upd H a (exo a C none))
section
variable {X : Cx} {C : Addr} {x : PySem.Str} {e : PySem.Expr} {ta : TE} {p pos : Pos}
theorem call_made0 {pins : List (Addr × Obj)} {σ : L2.St} {H : Hp} {s : Shared} {E : Value → Shared → Prop} {Q : Value → Shared → Prop} {k : Nat} (T : SxT X.prog X.K C) (hr : Room k X.A) (I : Inv X pins σ H s)
    (hq : ∀ a d s', H a = none → H d = none → d ≠ a → Inv X pins σ (upd (upd H d (exd d [("value", .non)])) a (exo a C (some d))) s' → Q (.ref a) s') : wpAny (model X.prog X.w) X.A (call (.ref C) []) Q E s := by
  obtain ⟨nm, q, N, bs, bm, sn, sub, ab, col, dd, k0, k1, k2, k3, k5, hC, hbm⟩ := T.cls
  obtain ⟨fI, cc, cda, qq, oc, od, td, doc, pm, an, ct, osl, pp, pp', iC, tI, lf, hcd, hline, code, cell, htd⟩ := T.fn
  have hlim := I.nolimit
  have IK := I.kIn
  have M := I.ok.mod
  obtain ⟨mb, hmb, hbb⟩ := M.blt
  obtain ⟨hp, g, dr, tk, os⟩ := s
  have kb : ∀ b o, X.base.get? b = some o → hp.get? b = some o := I.bk
  obtain ⟨to, tod, tsl, tn, htd⟩ := htd
  have kk : ∀ b o, hp.get? b = some o → ((hp.push (PySem.W.kdv_tup [])).push (PySem.HandSPX.excO C hp.objs.size)).get? b = some o := fun b o e => Heap.get?_push_of_some _ (Heap.get?_push_of_some _ e)
  have hget : ((hp.push (PySem.W.kdv_tup [])).push (PySem.HandSPX.excO C hp.objs.size)).get? (hp.objs.size + 1) = some (PySem.HandSPX.excO C hp.objs.size) := by heap_get
  have hnone : hp.get? (hp.objs.size + 1) = none := by
    cases e : hp.get? (hp.objs.size + 1) with
    | none => rfl
    | some o => exact absurd (Heap.lt_size e) (Nat.not_lt.mpr (Nat.le_succ _))
  refine wpAny_call (PySem.HandSPX.call_own PySem.F.excBase_ValueError (fun Y => PySem.HandSPX.refsVE_contains Y bm hbm) (IK _ _ hC) (PySem.W.looks_findIn IK iC) (fun self => PySem.W.bind_fn IK self tI) (by show 0 ≤ sizeLine; decide)
    (sx_init (s := ⟨(hp.push (PySem.W.kdv_tup [])).push (PySem.HandSPX.excO C hp.objs.size), g, dr, tk, os⟩) (hp := hp) (x := hp.objs.size + 1) (t0 := hp.objs.size) (v := .none) T lf hcd code cell IK kk (Nat.le_of_lt (Nat.lt_of_le_of_lt (Nat.le_succ _) (Heap.lt_size hget))) hnone hget (M.glob.keeps kb) (hmb.keeps kb) hbb (hlim.keeps kk) ?_ hline ?_ fun h' tk' dx t1 k' hdx hne ho hn => ?_))
  · have := hr.dp
    show X.A.depth + 1 < recursionLimit
    omega
  · exact binds_K (IK.keeps kk) rfl htd rfl rfl rfl
  · refine ⟨rfl, hq (hp.objs.size + 1) dx _ (I.hok.fresh (Nat.le_succ _)) (I.hok.fresh hdx) hne ?_⟩
    exact made_end (s := ⟨hp, g, dr, tk, os⟩) (v := .non) I rfl k' (Nat.le_succ _) hdx hne ho hn
theorem call_madeK {pins : List (Addr × Obj)} {σ : L2.St} {H : Hp} {s : Shared} {E : Value → Shared → Prop} {Q : Value → Shared → Prop} {u : Value} {v : V} {k : Nat} (T : SxT X.prog X.K C) (hr : Room k X.A) (I : Inv X pins σ H s) (r : RelV v u)
    (hq : ∀ a d s', H a = none → H d = none → d ≠ a → Inv X pins σ (upd (upd H d (exd d [("value", v)])) a (exo a C (some d))) s' → Q (.ref a) s') : wpAny (model X.prog X.w) X.A (call (.ref C) [] [("value", u)]) Q E s := by
  obtain ⟨nm, q, N, bs, bm, sn, sub, ab, col, dd, k0, k1, k2, k3, k5, hC, hbm⟩ := T.cls
  obtain ⟨fI, cc, cda, qq, oc, od, td, doc, pm, an, ct, osl, pp, pp', iC, tI, lf, hcd, hline, code, cell, htd⟩ := T.fn
  have hlim := I.nolimit
  have IK := I.kIn
  have M := I.ok.mod
  obtain ⟨mb, hmb, hbb⟩ := M.blt
  obtain ⟨hp, g, dr, tk, os⟩ := s
  have kb : ∀ b o, X.base.get? b = some o → hp.get? b = some o := I.bk
  obtain ⟨to, tod, tsl, tn, htd⟩ := htd
  have kk : ∀ b o, hp.get? b = some o → ((hp.push (PySem.W.kdv_tup [])).push (PySem.HandSPX.excO C hp.objs.size)).get? b = some o := fun b o e => Heap.get?_push_of_some _ (Heap.get?_push_of_some _ e)
  have hget : ((hp.push (PySem.W.kdv_tup [])).push (PySem.HandSPX.excO C hp.objs.size)).get? (hp.objs.size + 1) = some (PySem.HandSPX.excO C hp.objs.size) := by heap_get
  have hnone : hp.get? (hp.objs.size + 1) = none := by
    cases e : hp.get? (hp.objs.size + 1) with
    | none => rfl
    | some o => exact absurd (Heap.lt_size e) (Nat.not_lt.mpr (Nat.le_succ _))
  refine wpAny_call (call_kw PySem.F.excBase_ValueError (fun Y => PySem.HandSPX.refsVE_contains Y bm hbm) (IK _ _ hC) (PySem.W.looks_findIn IK iC) (fun self => PySem.W.bind_fn IK self tI)
    (sx_init (s := ⟨(hp.push (PySem.W.kdv_tup [])).push (PySem.HandSPX.excO C hp.objs.size), g, dr, tk, os⟩) (hp := hp) (x := hp.objs.size + 1) (t0 := hp.objs.size) (v := u) T lf hcd code cell IK kk (Nat.le_of_lt (Nat.lt_of_le_of_lt (Nat.le_succ _) (Heap.lt_size hget))) hnone hget (M.glob.keeps kb) (hmb.keeps kb) hbb (hlim.keeps kk) ?_ hline ?_ fun h' tk' dx t1 k' hdx hne ho hn => ?_))
  · have := hr.dp
    show X.A.depth + 1 < recursionLimit
    omega
  · exact binds_K (IK.keeps kk) rfl htd rfl rfl rfl
  · refine ⟨rfl, hq (hp.objs.size + 1) dx _ (I.hok.fresh (Nat.le_succ _)) (I.hok.fresh hdx) hne ?_⟩
    exact made_end (s := ⟨hp, g, dr, tk, os⟩) I r k' (Nat.le_succ _) hdx hne ho hn
theorem pe_mk0 {k : Nat} (T : SxT X.prog X.K C) (hr : Room k X.A) (hg : Gl X x) (hm : X.mg x = some (.ref C)) (hdb : (x == ("__debug__" : PySem.Str)) = false := by decide) : PE X (.Call (.Name x p) [] [] pos) (tMk0 C) := by
  refine ⟨fun pins s σ H Q I h => ?_⟩
  refine wpAny_Call_Name_kw (ld_glob I hg hm ?_ hdb)
  refine PySem.W.callWith_K0 I.kIn T.kC ?_
  show wpAny _ _ (call (.ref C) []) _ _ _
  exact call_made0 T hr I fun a d s' na nd ne J => ⟨.ref a, _, J, rfl, h a d na nd ne⟩
def oneV (P : V → Hp → Prop) : List V → Hp → Prop
  | [v], H => P v H
  | _, _ => False
theorem oneV_ok {P : V → Hp → Prop} {vs : List V} {H : Hp} (h : oneV P vs H) : ∃ v, vs = [v] ∧ P v H := by
  rcases vs with _ | ⟨v, _ | ⟨w, r⟩⟩
  · exact h.elim
  · exact ⟨v, rfl, h⟩
  · exact h.elim
theorem pe_mkK {k : Nat} {kp : Pos} (T : SxT X.prog X.K C) (hr : Room k X.A) (hg : Gl X x) (hm : X.mg x = some (.ref C)) (he : PE X e ta) (hdb : (x == ("__debug__" : PySem.Str)) = false := by decide)
    (hks : (backToKw pos (keywordEach [⟨some ("value" : PySem.Str), e, kp⟩] X.env)).filterMap (·.1) = [("value" : PySem.Str)] := by rfl) : PE X (.Call (.Name x p) [] [⟨some ("value" : PySem.Str), e, kp⟩] pos) (tMkV C ta) := by
  refine ⟨fun pins s σ H Q I h => ?_⟩
  refine wpAny_Call_Name_kw (ld_glob I hg hm ?_ hdb)
  refine PySem.W.callWith_KW0 (h₀ := X.base) I.ok.mod.kin T.kC (by rfl) ?_ (by rfl)
  have hk : PK X [⟨some ("value" : PySem.Str), e, kp⟩] (tCons ta tNil) := pk_cons he pk_nil
  rw [hks]
  refine thn (hk.run pos pins s σ H (oneV fun v H1 => ∀ a d, H1 a = none → H1 d = none → d ≠ a → Q (.ref a) (upd (upd H1 d (exd d [("value", v)])) a (exo a C (some d)))) I h) fun us s1 hh => ?_
  obtain ⟨vs, H1, I1, r, q1⟩ := hh
  obtain ⟨v, rfl, q1⟩ := oneV_ok q1
  obtain ⟨u, rfl, r1⟩ := r.one
  exact ⟨I1.kIn, call_madeK T hr I1 r1 fun a d s' na nd ne J => ⟨.ref a, _, J, rfl, q1 a d na nd ne⟩⟩
theorem pe_mkN {bmB : List Value} {B newId initId : String} (F : ExcBaseFacts B newId initId bmB) (q : PySem.W.excIn X.K C bmB newId = true) (gC : X.mg x = some (.ref C)) (kC : PySem.W.keepIn X.K (.ref C) = true) (hg : Gl X x)
    (hdb : (x == ("__debug__" : PySem.Str)) = false := by decide) : PE X (.Call (.Name x p) [] [] pos) (tMkN C) := by
  refine ⟨fun pins s σ H Q I h => ?_⟩
  refine wpAny_Call_Name_kw (ld_glob I hg gC ?_ hdb)
  refine PySem.W.callWith_K0 I.kIn kC ?_
  show wpAny _ _ (call (.ref C) []) _ _ _
  obtain ⟨bm, N, nm, qn, bs, hdct, sn, sub, ab, col, dd, k0, k1, k2, k3, k5, mN, hC, hN, hni, T⟩ := exc_obj I.kIn q
  refine wpAny_call_exc_subT F T hC hN hni (fun h' a hm => ?_) (by show 0 ≤ sizeLine; decide)
  have hn : H a = none := I.hok.gone hm.new
  obtain ⟨t, ht, _, _⟩ := hm.there
  exact ⟨.ref a, upd H a (exo a C none), I.laidN hm.keeps hm.new hn (exo_ok ht), rfl, h a hn⟩
end
end MPX
namespace MPX
open PySem PySem.W PySem.Calls PyProof.Rows PySem.Spec PySem.HandSPX L2
section
variable {M : Model} {prog : Program} {w : World} {A : Around} {E : Value → Shared → Prop} {s : Shared} {K : PySem.W.Frag} {x y C : Addr} {ox oy : Obj} {od od' : Option Obj}
theorem call_objEqX {Q : Value → Shared → Prop} (X : K.In s.heap) (I : PySem.W.InstAt s.heap x ox C od) (J : PySem.W.InstAt s.heap y oy C od') (hxy : x ≠ y) (hm : PySem.W.mroIn K C (.type "object") = some true) (hq : Q .notImplemented s) :
    wpAny (model prog w) A (call (.builtin "object.__eq__") [.ref x, .ref y]) Q E s :=
  wpAny_call (codeAny_call_builtin F.cmp_object.eq.plain F.cmpEntry_eq (PySem.W.check_slot F.cmpKind_eq F.cmpSplit_eq (I.type.andThen (PySem.W.looks_mroIn X hm)) (F.cmpArgs_eq _ _)
    (objEq_entry_other hxy I.at_ J.at_ (by rw [I.cls]; exact fun z => by cases z) hq)))
theorem rc_exc (hu : A.units < cLine) (X : K.In s.heap) (I : PySem.W.InstAt s.heap x ox C od) (J : PySem.W.InstAt s.heap y oy C od') (hxy : x ≠ y) (hm : PySem.W.mroIn K C (.type "object") = some true) (hs : PySem.W.findIn K (.ref C) "__eq__" = some (some (.builtin "object.__eq__")))
    {Q : Value → Shared → Prop} (h : Q (.bool false) s) : wpAny (model prog w) A (richCompare .Eq (.ref x) (.ref y)) Q E s := by
  have one : wpAny (model prog w) A (tryCompare (.ref x) "__eq__" (.ref y)) (fun r s' => r = none ∧ s' = s) E s := by
    unfold tryCompare
    exact wpAny_bind (HN.ifBound_objEq X I hs (call_objEqX X I J hxy hm (wpAny_pure ⟨rfl, rfl⟩)))
  have two : wpAny (model prog w) A (tryCompare (.ref y) "__eq__" (.ref x)) (fun r s' => r = none ∧ s' = s) E s := by
    unfold tryCompare
    exact wpAny_bind (HN.ifBound_objEq X J hs (call_objEqX X J I (Ne.symm hxy) hm (wpAny_pure ⟨rfl, rfl⟩)))
  simp only [richCompare, cmpInfo_Eq, oneThing_ref]
  refine wpAny_holding (wpAny_bind (wpAny_cRoomFor hu ?_))
  refine wpAny_bind (I.type.here ?_)
  refine wpAny_bind (J.type.here ?_)
  split
  · rename_i q
    exact absurd q (by simp)
  · simp only [Bool.false_eq_true, if_false, Bool.not_false, if_true, pure_bind]
    refine wpAny_bind (m := tryCompare (.ref x) _ (.ref y)) (wpAny_mono one (fun r s1 z => ?_) fun _ _ e => e)
    obtain ⟨z1, z2⟩ := z
    subst z1
    subst z2
    refine wpAny_bind (m := tryCompare (.ref y) _ (.ref x)) (wpAny_mono two (fun r s2 z => ?_) fun _ _ e => e)
    obtain ⟨z1, z2⟩ := z
    subst z1
    subst z2
    exact wpAny_bind (wpAny_rule (wpAny_bind (wpAny_isSame_ref_other hxy I.at_ J.at_ (by rw [I.cls]; exact fun z => by cases z) (wpAny_pure h))))
end
/-- == of two errors, each made anew -/
def rEqX (K : PySem.W.Frag) : R2 := fun x y H Q => ∃ (a b C : Addr) (d d' : Option Addr), x = .ref a ∧ y = .ref b ∧ a ≠ b ∧ H a = some (exo a C d) ∧ (∀ e, d = some e → ∃ fs, H e = some (exd e fs)) ∧ H b = some (exo b C d') ∧ (∀ e, d' = some e → ∃ fs, H e = some (exd e fs)) ∧
  PySem.W.mroIn K C (.type "object") = some true ∧ PySem.W.findIn K (.ref C) "__eq__" = some (some (.builtin "object.__eq__")) ∧ Q (.bl false) H
theorem inst_exo {X : Cx} {pins : List (Addr × Obj)} {σ : L2.St} {H : Hp} {s : Shared} {a C : Addr} {d : Option Addr} (I : Inv X pins σ H s) (ha : H a = some (exo a C d)) (hd : ∀ e, d = some e → ∃ fs, H e = some (exd e fs)) : ∃ ox od, PySem.W.InstAt s.heap a ox C od := by
  obtain ⟨t1, ho⟩ := exo_at I.hok ha
  cases d with
  | none => exact ⟨_, none, ⟨ho, rfl, rfl, trivial⟩⟩
  | some dd =>
    obtain ⟨fs, hdd⟩ := hd dd rfl
    obtain ⟨mA, hns, hr⟩ := exd_at I.hok hdd
    obtain ⟨od, hod, hl⟩ := lookIn_ns hns
    exact ⟨_, some od, ⟨ho, rfl, rfl, hod⟩⟩
theorem op_eqX {X : Cx} (hu : X.A.units + 1 < cLine) : OpR X (compareOp .Eq) (rEqX X.K) := by
  intro pins s σ H x y v u Q I rx ry h
  obtain ⟨a, b, C, d, d', rfl, rfl, ne, ha, hd, hb, hd', hm, he, q⟩ := h
  cases rx
  cases ry
  obtain ⟨ox, od, I1⟩ := inst_exo I ha hd
  obtain ⟨oy, od', I2⟩ := inst_exo I hb hd'
  exact PySem.W.cmp_ofEq (rc_exc (by omega) I.kIn I1 I2 ne hm he ⟨.bl false, H, I, rfl, q⟩)
end MPX
namespace MP
open PySem L2

/-! ## the small language -/
inductive Cst where | non | bl (b : Bool) | int (i : Int) | str (x : Str)
  deriving DecidableEq
def Cst.v : Cst → V | .non => .non | .bl b => .bl b | .int i => .int i | .str x => .str x
inductive Op2 where | add | sub | mul | fdiv | mod | pow | eq | ne | lt | le | gt | ge | inn | nin | is_ | isn
  deriving DecidableEq
/-- built-in functions and types called by name -/
inductive Bi where | len | isi | max2 | sum | sorted | int | list | tuple | repr | set
  deriving DecidableEq
inductive Mt where | append | pop0 | popAt
  deriving DecidableEq
/-- what a for or a comprehension walks -/
inductive IK where | list | tup | range1 | range2 | enum | zip
  deriving DecidableEq
inductive MT where | nm (i : Nat) | tp (is : List Nat)
mutual
inductive ME where
  | var (i : Nat) | cst (c : Cst) | glb (i : Nat) | ty (T : String)
  | op (o : Op2) (m : Bool) (a b : ME) | neg (a : ME) | chain (o o2 : Op2) (a b c : ME)
  | and (a b : ME) | or (a b : ME) | not (a : ME) | ife (c a b : ME)
  | tup (es : MEs) | lst (m : Bool) (es : MEs)
  | ix (a b : ME) | sl (a : ME) (lo hi : MO)
  | bi (b : Bi) (m : Bool) (as : MEs) | mt (k : Mt) (o : ME) (as : MEs) | bits (a : ME)
  | call (f : Nat) (as : MEs)
  | mk (c : Nat) (as : MEs) (kw : Bool) | val (a : ME) | eqX (a b : ME)
  | comp (m : Bool) (elt : ME) (tg : MT) (k : IK) (src : MEs) (cond : MO) (own : List (Str × Nat))
inductive MEs where | nil | cons (e : ME) (r : MEs)
inductive MO where | none | some (e : ME)
end

/-! ## the look at the text -/
def nmOk (N : List Str) (sc : Scope) (i : Nat) (x : Str) : Bool :=
  decide (N[i]? = some x) && (match sc.names.lookup x with | some .local => true | some .cell => true | some .free => true | _ => false) && !(x == ("__debug__" : Str)) && !(x == ("__classdict__" : Str))
def glOk (sc : Scope) (x : Str) : Bool := decide (sc.names.lookup x = some .globalImplicit) && !(x == ("__debug__" : Str)) && !(x == ("__name__" : Str))
def Op2.bin : Op2 → Option Operator
  | .add => some .Add | .sub => some .Sub | .mul => some .Mult | .fdiv => some .FloorDiv | .mod => some .Mod | .pow => some .Pow | _ => none
def Op2.cmp : Op2 → Option CmpOp
  | .eq => some .Eq | .ne => some .NotEq | .lt => some .Lt | .le => some .LtE | .gt => some .Gt | .ge => some .GtE | .inn => some .In | .nin => some .NotIn | .is_ => some .Is | .isn => some .IsNot | _ => none
def Bi.name : Bi → Str
  | .len => "len" | .isi => "isinstance" | .max2 => "max" | .sum => "sum" | .sorted => "sorted" | .int => "int" | .list => "list" | .tuple => "tuple" | .repr => "repr" | .set => "set"
def Bi.isTy : Bi → Option String
  | .int => some "int" | .list => some "list" | .tuple => some "tuple" | .set => some "set" | _ => none
def Bi.bid : Bi → String
  | .len => "len" | .isi => "isinstance" | .max2 => "max" | .sum => "sum" | .sorted => "sorted" | .repr => "repr" | _ => ""
def Mt.ty : Mt → String | .append => "list" | .pop0 => "list" | .popAt => "list"
def Mt.name : Mt → Str | .append => "append" | .pop0 => "pop" | .popAt => "pop"
def plainBase : PySem.Expr → Bool | .Call (.Name x _) [] [] _ => x != ("super" : Str) | _ => true
def isSet : PySem.Expr → Bool | .Set .. => true | _ => false
/-- the names of functions and constants of the module -/
structure Tab where
  fns : List Str
  glbs : List Str
  cls : List Str
def cstOk : Cst → Const → Bool
  | .non, .none => true | .bl b, .bool c => b == c | .int i, .int j => decide (i = j) | .str x, .str y => decide (x = y) | _, _ => false
def tgOk (N : List Str) (sc : Scope) : MT → PySem.Expr → Bool
  | .nm i, .Name x _ => decide (N[i]? = some x) && (match sc.names.lookup x with | some .local => true | some .cell => true | _ => false)
  | .tp is, .Tuple es _ _ => go is es
  | _, _ => false
where go : List Nat → List PySem.Expr → Bool
  | [], [] => true
  | i :: is, .Name x _ :: es => (decide (N[i]? = some x) && (match sc.names.lookup x with | some .local => true | some .cell => true | _ => false)) && go is es
  | _, _ => false
/-- within a comprehension: local names alone -/
def tgLoc (sc : Scope) : MT → PySem.Expr → Bool
  | .nm _, .Name x _ => decide (sc.names.lookup x = some .local)
  | .tp _, .Tuple es _ _ => es.all fun | .Name x _ => decide (sc.names.lookup x = some .local) | _ => false
  | _, _ => false
def tgTup : IK → PySem.Expr → Bool
  | .enum, .Tuple .. => true | .zip, .Tuple .. => true | .enum, _ => false | .zip, _ => false | _, _ => true
def tyNames : List String := ["int", "bool", "str", "list", "tuple", "dict", "ValueError"]
mutual
def chkE (T : Tab) (N : List Str) (sc : Scope) : ME → PySem.Expr → Bool
  | .var i, .Name x _ => nmOk N sc i x
  | .cst c, .Constant k _ _ => cstOk c k
  | .glb i, .Name x _ => glOk sc x && decide (T.glbs[i]? = some x)
  | .ty t, .Name x _ => glOk sc x && decide (x = Str.ofString t) && decide (t ∈ tyNames)
  | .op o _ a b, .BinOp l p r _ => decide (o.bin = some p) && chkE T N sc a l && chkE T N sc b r
  | .op o _ a b, .Compare l [p] [r] _ => decide (o.cmp = some p) && chkE T N sc a l && chkE T N sc b r
  | .chain o o2 a b c, .Compare l [p, p2] [r, t] _ => decide (o.cmp = some p) && decide (o2.cmp = some p2) && chkE T N sc a l && chkE T N sc b r && chkE T N sc c t
  | .neg a, .UnaryOp .USub e _ => chkE T N sc a e
  | .not a, .UnaryOp .Not e _ => chkE T N sc a e
  | .and a b, .BoolOp .And [l, r] _ => chkE T N sc a l && chkE T N sc b r
  | .and a b, .BoolOp .And (l :: r :: r2 :: rest) pos => chkE T N sc a l && chkE T N sc b (.BoolOp .And (r :: r2 :: rest) pos)
  | .or a b, .BoolOp .Or [l, r] _ => chkE T N sc a l && chkE T N sc b r
  | .or a b, .BoolOp .Or (l :: r :: r2 :: rest) pos => chkE T N sc a l && chkE T N sc b (.BoolOp .Or (r :: r2 :: rest) pos)
  | .ife c a b, .IfExp t l r _ => chkE T N sc c t && chkE T N sc a l && chkE T N sc b r
  | .tup es, .Tuple l _ _ => chkEs T N sc es l
  | .lst _ es, .List l _ => chkEs T N sc es l
  | .ix a b, .Subscript l r _ => chkE T N sc a l && chkE T N sc b r
  | .sl a lo hi, .Subscript l (.Slice x y none _) _ => chkE T N sc a l && chkO T N sc lo x && chkO T N sc hi y
  | .bi b _ as, .Call (.Name x _) (e :: es) [] _ => glOk sc x && decide (x = b.name) && chkEs T N sc as (e :: es)
  | .mt k o (.cons a as), .Call (.Attribute l x p1) (e :: es) [] p2 => plainBase l && decide (x = k.name) && decide (k ≠ .pop0) && (p1.endLine == p2.line) && decide (es.length < 20) && chkE T N sc o l && chkEs T N sc (.cons a as) (e :: es)
  | .mt .pop0 o .nil, .Call (.Attribute l x p1) [] [] p2 => plainBase l && decide (x = ("pop" : Str)) && (p1.endLine == p2.line) && chkE T N sc o l
  | .bits a, .Call (.Attribute l x p1) [] [] p2 => plainBase l && decide (x = ("bit_length" : Str)) && (p1.endLine == p2.line) && chkE T N sc a l
  | .call f as, .Call (.Name x _) (e :: es) [] _ => glOk sc x && decide (T.fns[f]? = some x) && chkEs T N sc as (e :: es)
  | .call f .nil, .Call (.Name x _) [] [] _ => glOk sc x && decide (T.fns[f]? = some x)
  | .mk c (.cons a .nil) false, .Call (.Name x _) [e] [] _ => glOk sc x && decide (T.cls[c]? = some x) && chkE T N sc a e
  | .mk c .nil false, .Call (.Name x _) [] [] _ => glOk sc x && decide (T.cls[c]? = some x)
  | .mk c (.cons a .nil) true, .Call (.Name x _) [] [⟨some n, e, _⟩] _ => glOk sc x && decide (n = ("value" : Str)) && decide (T.cls[c]? = some x) && chkE T N sc a e
  | .val a, .Attribute e f _ => decide (f = ("value" : Str)) && plainBase e && chkE T N sc a e
  | .eqX a b, .Compare l [.Eq] [r] _ => chkE T N sc a l && chkE T N sc b r
  | .comp _ elt tg k src cond own, .ListComp e [⟨t, i, ifs, 0⟩] scope _ =>
      blkC N sc scope own && tgOk N (relS scope sc) tg t && tgLoc (relS scope sc) tg t && tgTup k t && chkI T N sc k src i && !isSet i && chkIf T N (relS scope sc) cond ifs && chkE T N (relS scope sc) elt e
  | _, _ => false
def chkEs (T : Tab) (N : List Str) (sc : Scope) : MEs → List PySem.Expr → Bool
  | .nil, [] => true
  | .cons a as, e :: es => chkE T N sc a e && chkEs T N sc as es
  | _, _ => false
def chkO (T : Tab) (N : List Str) (sc : Scope) : MO → Option PySem.Expr → Bool
  | .none, none => true
  | .some a, some e => chkE T N sc a e
  | _, _ => false
def chkIf (T : Tab) (N : List Str) (sc : Scope) : MO → List PySem.Expr → Bool
  | .none, [] => true
  | .some a, [e] => chkE T N sc a e
  | _, _ => false
def chkI (T : Tab) (N : List Str) (sc : Scope) : IK → MEs → PySem.Expr → Bool
  | .list, .cons a .nil, e => chkE T N sc a e
  | .tup, .cons a .nil, e => chkE T N sc a e
  | .range1, .cons a .nil, .Call (.Name x _) [e] [] _ => glOk sc x && decide (x = ("range" : Str)) && chkE T N sc a e
  | .range2, .cons a (.cons b .nil), .Call (.Name x _) [e, f] [] _ => glOk sc x && decide (x = ("range" : Str)) && chkE T N sc a e && chkE T N sc b f
  | .enum, .cons a .nil, .Call (.Name x _) [e] [] _ => glOk sc x && decide (x = ("enumerate" : Str)) && chkE T N sc a e
  | .zip, .cons a (.cons b .nil), .Call (.Name x _) [e, f] [] _ => glOk sc x && decide (x = ("zip" : Str)) && chkE T N sc a e && chkE T N sc b f
  | _, _, _ => false
end
end MP
namespace MP
open PySem L2 PyProof.Rows PySem.Spec

/-! ## the operators by values -/
theorem opOr {X : Cx} {f : Value → Value → Sem Value} {r r' : R2} (h : OpR X f r) (h' : OpR X f r') : OpR X f (fun x y H Q => r x y H Q ∨ r' x y H Q) := by
  intro pins s σ H x y v u Q I rx ry q
  rcases q with q | q
  · exact h pins s σ H x y v u Q I rx ry q
  · exact h' pins s σ H x y v u Q I rx ry q
def CPowX (i j : Int) : Prop := 0 ≤ j ∧ (Builtin.Int.intBits i : Int) * j ≤ 2 ^ 27
def rStrAdd : R2 := fun x y H Q => ∃ i j, x = .str i ∧ y = .str j ∧ i.length + j.length ≤ sizeLine ∧ Q (.str (i ++ j)) H
def rStrMul : R2 := fun x y H Q => ∃ z n, x = .str z ∧ y = .int n ∧ MulOk z n ∧ Q (.str (Txt.mul z n)) H
def rInDict (neg : Bool) : R2 := fun y x H Q => ∃ a o, x = .ref a ∧ DGet H a y o ∧ Q (.bl (if neg then !o.isSome else o.isSome)) H
def rSign (neg : Bool) : R2 := fun x y H Q => ∃ (c : Nat) (z : Str), x = .str ⟨#[c]⟩ ∧ y = .str z ∧ Q (.bl (if neg then !decide (c ∈ z.cps.toList) else decide (c ∈ z.cps.toList))) H
def rCatS (K : PySem.W.Frag) : R2 := fun x y H Q => ∃ l b xs zs, x = .ref l ∧ y = .ref b ∧ SqL K H l xs ∧ SqL K H b zs ∧ xs.length + zs.length ≤ sizeLine ∧ ∀ p, H p = none → Q (.ref p) (upd H p (.lst (xs ++ zs)))
def rRepS (K : PySem.W.Frag) : R2 := fun x y H Q => ∃ l k xs, x = .ref l ∧ y = .int k ∧ SqL K H l xs ∧ -(2 ^ 63) ≤ k ∧ k < 2 ^ 63 ∧ xs.length * k.toNat ≤ sizeLine ∧
  ∀ p, H p = none → Q (.ref p) (upd H p (.lst (List.replicate k.toNat xs).flatten))
def r2 (K : PySem.W.Frag) : Op2 → R2
  | .add => fun x y H Q => rI0 (fun i j => .int (i + j)) x y H Q ∨ rStrAdd x y H Q ∨ rCatS K x y H Q ∨ rCatA K x y H Q
  | .sub => rI0 fun i j => .int (i - j)
  | .mul => fun x y H Q => rI CMulX (fun i j => .int (i * j)) x y H Q ∨ rStrMul x y H Q ∨ rRepS K x y H Q
  | .fdiv => rI CDivW fun i j => .int (i / j)
  | .mod => rI (fun _ j => j ≠ 0) fun i j => .int (i.fmod j)
  | .pow => rI CPowX fun i j => .int (i ^ j.toNat)
  | .eq => rEqD K
  | .ne => rNeD K
  | .lt => rI0 fun i j => .bl (decide (i < j))
  | .le => rI0 fun i j => .bl (decide (i ≤ j))
  | .gt => rI0 fun i j => .bl (decide (j < i))
  | .ge => rI0 fun i j => .bl (decide (j ≤ i))
  | .inn => fun x y H Q => rInD K x y H Q ∨ rInDict false x y H Q ∨ rSign false x y H Q ∨ rIn K false x y H Q
  | .nin => fun x y H Q => rNotInD K x y H Q ∨ rInDict true x y H Q ∨ rSign true x y H Q ∨ rIn K true x y H Q
  | .is_ => fun x y H Q => (y = .non ∧ Q (.bl (decide (x = .non))) H) ∨ rIsB x y H Q
  | .isn => fun x y H Q => (y = .non ∧ Q (.bl (!decide (x = .non))) H) ∨ rNotB x y H Q
section
variable {X : Cx}
theorem op_catS : OpR X (binaryOp .Add) (rCatS X.K) := by
  intro pins s σ H x y v u Q I rx ry h
  obtain ⟨l, b, xs, zs, rfl, rfl, hH, hB, hz, q⟩ := h
  cases rx
  cases ry
  obtain ⟨its, r, ⟨⟨cls, dd, data, sl⟩, n, ho, hc, hd0, hd⟩, _⟩ := I.list hH
  obtain ⟨its2, r2, ⟨⟨cls2, dd2, data2, sl2⟩, n2, ho2, hc2, hd02, hd2⟩, _⟩ := I.list hB
  simp only at hc hd hc2 hd2
  subst hc hd hc2 hd2
  have e1 := r.length
  have e2 := r2.length
  have e : its.toArray ++ its2.toArray = (its ++ its2).toArray := by simp
  refine concat_meets ⟨_, ho, rfl⟩ ⟨_, ho2, rfl⟩ noFill_list_add seq_list_add PySem.F.slot_list_add PySem.F.entry_list_add (PySem.F.args_list_add_2 _ _) (list_addW l b its.toArray its2.toArray n n2 dd dd2 sl sl2 (by rw [List.size_toArray, List.size_toArray]; omega)) ⟨ho, ho2, ?_⟩
  rw [e]
  exact ⟨.ref _, _, I.lnew (t' := s.toks) (r.append r2) (by rw [List.length_append]; omega), rfl, q _ I.fresh⟩
theorem op_repS : OpR X (binaryOp .Mult) (rRepS X.K) := by
  intro pins s σ H x y v u Q I rx ry h
  obtain ⟨l, k, xs, rfl, rfl, hH, h1, h2, hz, q⟩ := h
  cases rx
  obtain ⟨t, rfl⟩ := ry
  obtain ⟨its, r, ⟨⟨cls, dd, data, sl⟩, n, ho, hc, hd0, hd⟩, _⟩ := I.list hH
  simp only at hc hd
  subst hc hd
  have hl := r.length
  have hlen : its.toArray.size * k.toNat ≤ sizeLine := by rw [List.size_toArray, ← hl]; exact hz
  have hcap : ¬ its.toArray.size * k.toNat > (2 ^ 63 - 1) / 8 := by
    have : (sizeLine : Nat) ≤ (2 ^ 63 - 1) / 8 := by decide
    omega
  have hfit : ¬ (!Builtin.List.listFitsIndex k) = true := by
    rw [fitsIndex_both h1 h2]
    exact Bool.false_ne_true
  have hlong : ¬ Builtin.List.listTooLong (its.toArray.size * k.toNat) = true := by
    rw [notLongL hlen]
    exact Bool.false_ne_true
  have hnew : List.foldl (fun x1 x2 => x1 ++ x2) #[] (List.replicate (if its.toArray.isEmpty = true then 0 else k.toNat) its.toArray) = (List.replicate k.toNat its).flatten.toArray := by
    have f0 : ∀ m : Nat, List.foldl (fun x1 x2 => x1 ++ x2) #[] (List.replicate m its.toArray) = (List.replicate m its).flatten.toArray := fun m => by
      have := foldl_rep its m []
      rw [List.nil_append] at this
      exact this
    rw [f0]
    cases its with
    | nil => simp
    | cons a r' => rw [if_neg (by simp)]
  refine wpAny_binaryOp_repeat_ref (T := "list") (U := "int") (by decide) ⟨_, ho, rfl⟩ (fun s' => typeIs_int s' k t) noFill_list_mul PySem.F.fills_int_mul PySem.F.slot_int_rmul repeat_list PySem.F.slot_int_index.lookup
    (call_meets PySem.F.slot_int_rmul (typeIs_int s k t) PySem.F.entry_int_rmul (PySem.F.args_int_rmul_2 _ _) (lm_int_rmul_list_any k t l its.toArray n dd sl)
      ⟨ho, rfl, ⟨_, ho, rfl⟩, call_meets PySem.F.slot_list_mul ⟨_, ho, rfl⟩ PySem.F.entry_list_mul (PySem.F.args_list_mul_2 _ _) (lm_list_mul_any l its.toArray n dd sl k t hfit hcap hlong) ⟨ho, ?_⟩⟩)
  rw [hnew]
  exact ⟨.ref _, _, I.lnew (t' := s.toks) (r.rep k.toNat) (by rw [PyProof.Rows.lm_len_rep_flat, Nat.mul_comm]; exact hz), rfl, q _ I.fresh⟩
theorem op_powX : OpR X (binaryOp .Pow) (rI CPowX fun i j => .int (i ^ j.toNat)) := opI fun _ _ _ _ _ _ _ hc q => pow_int hc.1 hc.2 q
theorem op_strMul : OpR X (binaryOp .Mult) rStrMul := by
  intro pins s σ H x y v u Q I rx ry h
  obtain ⟨z, n, rfl, rfl, hc, q⟩ := h
  obtain ⟨t, rfl⟩ := rx
  obtain ⟨t', rfl⟩ := ry
  exact SB.mul hc fun t' k => ⟨.str (Txt.mul z n), H, I.tok _, ⟨_, rfl⟩, q⟩
theorem op_inDict (hu : X.A.units + 1 < cLine) : OpR X (compareOp .In) (rInDict false) := by
  intro pins s σ H x y v u Q I rx ry h
  obtain ⟨a, o, rfl, g, q⟩ := h
  cases ry
  exact d_in hu I g rx fun s' I' => ⟨.bl o.isSome, H, I', rfl, q⟩
theorem op_ninDict (hu : X.A.units + 1 < cLine) : OpR X (compareOp .NotIn) (rInDict true) := by
  intro pins s σ H x y v u Q I rx ry h
  obtain ⟨a, o, rfl, g, q⟩ := h
  cases ry
  exact d_notIn hu I g rx fun s' I' => ⟨.bl (!o.isSome), H, I', rfl, q⟩
theorem op_bin {o : Op2} {p : Operator} (e : o.bin = some p) : OpR X (binaryOp p) (r2 X.K o) := by
  cases o <;> cases e
  · exact opOr op_add (opOr op_add_str (opOr op_catS op_catA))
  · exact op_sub
  · exact opOr op_mulX (opOr op_strMul op_repS)
  · exact op_fdivW
  · exact op_modN
  · exact op_powX
theorem op_cmp {o : Op2} {p : CmpOp} (hu : X.A.units + 65 < cLine) (e : o.cmp = some p) : OpR X (compareOp p) (r2 X.K o) := by
  cases o <;> cases e
  · exact op_eqD (by omega)
  · exact op_neD (by omega)
  · exact op_lt
  · exact op_le
  · exact op_gt
  · exact op_ge
  · exact opOr (op_inD hu) (opOr (op_inDict (by omega)) (opOr op_in_sign op_in_seq))
  · exact opOr (op_notInD hu) (opOr (op_ninDict (by omega)) (opOr op_notIn_sign op_notIn_seq))
  · exact opOr op_isN op_isBl
  · exact opOr op_notN op_notBl
end

/-! ## built-ins by values -/
def rBi (K : PySem.W.Frag) : Bi → List V → Hp → VK → Prop
  | .len => fun xs H Q => (∃ x n, xs = [x] ∧ LenV K x H n ∧ Q (.int n) H) ∨ ∃ p kvs, xs = [.ref p] ∧ Rd H p (.dK kvs) ∧ Q (.int (kvs.length : Nat)) H
  | .isi => fun xs H Q => rIsi K xs H Q ∨ MPX.rIsX K xs H Q
  | .max2 => fun xs H Q => ∃ i j, xs = [.int i, .int j] ∧ Q (.int (if j > i then j else i)) H
  | .sum => rSum K
  | .sorted => fun _ _ _ => False
  | .int => fun xs H Q => ∃ x, xs = [x] ∧ ((∃ i, x = .int i ∧ Q (.int i) H) ∨ ∃ b, x = .bl b ∧ Q (.int (if b then 1 else 0)) H)
  | .list => fun xs H Q => ∃ p ys, xs = [.ref p] ∧ (SqL K H p ys ∨ SqT K H p ys) ∧ ∀ l, H l = none → Q (.ref l) (upd H l (.lst ys))
  | .tuple => fun xs H Q => ∃ p ys, xs = [.ref p] ∧ ((SqL K H p ys ∧ ∀ l, H l = none → Q (.ref l) (upd H l (.tup ys))) ∨ (SqT K H p ys ∧ Q (.ref p) H))
  | .repr => fun _ _ _ => False
  | .set => fun _ _ _ => False
end MP
namespace MP
open PySem L2 PyProof.Rows PySem.Spec

/-! ## readings -/
/-- what the module gives: the written part, each function's promise, each constant's value -/
structure Gb where
  K : PySem.W.Frag
  /-- the own exception classes; whether they take a value -/
  cl : Nat → Addr
  hv : Nat → Bool
structure Gv extends Gb where
  sp : Nat → Sp
  gv : Nat → V
instance : Coe Gv Gb := ⟨Gv.toGb⟩
def rdTgs : List Nat → TGs
  | [] => gNil
  | i :: r => gCons (gName i) (rdTgs r)
def rdTg (K : PySem.W.Frag) : MT → TG
  | .nm i => gName i
  | .tp is => gTup K is.length (rdTgs is)
def tBad : TE := fun _ _ _ => False
def tTru (K : PySem.W.Frag) (t : TE) : TT := fun σ H Q => t σ H fun x H' => ∃ k, TruV K x H' k ∧ Q k H'
def rSl (K : PySem.W.Frag) : V → Option Int → Option Int → Hp → VK → Prop := fun x lo hi H Q => rSlL K x lo hi H Q ∨ rSlA K x lo hi H Q ∨ rSlS x lo hi H Q
def rIxA (K : PySem.W.Frag) : R2 := fun x y H Q => rIx K x y H Q ∨ ∃ a v, x = .ref a ∧ DGet H a y (some v) ∧ Q v H
def rMt (K : PySem.W.Frag) : Mt → V → List V → Hp → VK → Prop
  | .append => rAppend
  | .pop0 => rPop
  | .popAt => rPopAt
mutual
def rdE (G : Gv) (W : WX) : ME → TE
  | .var i => tVar i
  | .cst c => tC c.v
  | .glb i => tC (G.gv i)
  | .ty t => tC (.ty t)
  | .op o _ a b => tOp (r2 G.K o) (rdE G W a) (rdE G W b)
  | .neg a => tUn (rU fun i => .int (-i)) (rdE G W a)
  | .chain o o2 a b c => tChain (r2 G.K o) (r2 G.K o2) (rdE G W a) (rdE G W b) (rdE G W c)
  | .and a b => tAndT G.K (rdE G W a) (rdE G W b)
  | .or a b => tOrT G.K (rdE G W a) (rdE G W b)
  | .not a => tNotT G.K (rdE G W a)
  | .ife c a b => tIf (rdT G W c) (rdE G W a) (rdE G W b)
  | .tup es => tTup (rdEs G W es)
  | .lst _ es => tLst (rdEs G W es)
  | .ix a b => tOp (rIxA G.K) (rdE G W a) (rdE G W b)
  | .sl a lo hi => tSl (rSl G.K) (rdE G W a) (rdO G W lo) (rdO G W hi)
  | .bi b _ as => tCB (rBi G.K b) (rdEs G W as)
  | .mt k o .nil => tBM0 G.K k.ty (rMt G.K k) (rdE G W o)
  | .mt k o (.cons a as) => tBM G.K k.ty (rMt G.K k) (rdE G W o) (tCons (rdE G W a) (rdEs G W as))
  | .bits a => tBits (rdE G W a)
  | .call f as => tCallS (G.sp f) (WE W) (rdEs G W as)
  | .mk c (.cons a .nil) _ => if G.hv c = true then MPX.tMkV (G.cl c) (rdE G W a) else tBad
  | .mk c .nil _ => if G.hv c = true then MPX.tMk0 (G.cl c) else MPX.tMkN (G.cl c)
  | .mk _ _ _ => tBad
  | .val a => MPX.tVal G.K (rdE G W a)
  | .eqX a b => tOp (MPX.rEqX G.K) (rdE G W a) (rdE G W b)
  | .comp _ elt tg k src cond own => tLc (rdI G W k src) (rdTg G.K tg) (rdIf G (fun _ _ _ _ => False) cond) (rdE G (fun _ _ _ _ => False) elt) (own.map (·.2))
def rdEs (G : Gv) (W : WX) : MEs → TA
  | .nil => tNil
  | .cons a as => tCons (rdE G W a) (rdEs G W as)
def rdO (G : Gv) (W : WX) : MO → TO
  | .none => tNoPart
  | .some a => tPart (rdE G W a)
def rdIf (G : Gv) (W : WX) : MO → TT
  | .none => tYes
  | .some a => rdT G W a
def rdI (G : Gv) (W : WX) : IK → MEs → TI
  | .list, .cons a .nil => iList G.K (rdE G W a)
  | .tup, .cons a .nil => iTup G.K (rdE G W a)
  | .range1, .cons a .nil => iRng1 (tCons (rdE G W a) tNil)
  | .range2, .cons a (.cons b .nil) => iRng2 (tCons (rdE G W a) (tCons (rdE G W b) tNil))
  | .enum, .cons a .nil => iEnum G.K (tCons (rdE G W a) tNil)
  | .zip, .cons a (.cons b .nil) => iZip G.K (tCons (rdE G W a) (tCons (rdE G W b) tNil))
  | _, _ => fun _ _ _ => False
def rdT (G : Gv) (W : WX) : ME → TT
  | .and a b => tAnd (rdT G W a) (rdT G W b)
  | .or a b => tOr (rdT G W a) (rdT G W b)
  | .not a => tNot (rdT G W a)
  | .ife _ _ _ => fun _ _ _ => False
  | .op o _ a b => if o.cmp.isSome then tTest (tOp (r2 G.K o) (rdE G W a) (rdE G W b)) else tTru G.K (tOp (r2 G.K o) (rdE G W a) (rdE G W b))
  | .chain o o2 a b c => tTest (tChain (r2 G.K o) (r2 G.K o2) (rdE G W a) (rdE G W b) (rdE G W c))
  | .var i => tTru G.K (tVar i)
  | .cst c => tTru G.K (tC c.v)
  | .glb i => tTru G.K (tC (G.gv i))
  | .ix a b => tTru G.K (tOp (rIxA G.K) (rdE G W a) (rdE G W b))
  | .bi b _ as => tTru G.K (tCB (rBi G.K b) (rdEs G W as))
  | .call f as => tTru G.K (tCallS (G.sp f) (WE W) (rdEs G W as))
  | .val a => tTru G.K (MPX.tVal G.K (rdE G W a))
  | _ => fun _ _ _ => False
end

/-! ## the context -/
/-- what the written part says of an own error's class -/
def ClF (P : Program) (K : PySem.W.Frag) (C : Addr) (v : Bool) : Prop := PySem.W.keepIn K (.ref C) = true ∧ if v = true then MPX.SxT P K C else PySem.W.excIn K C PySem.HandSPX.veTail "ValueError.__new__" = true
structure CxOk (T : Tab) (G : Gv) (k : Nat) (N : List Str) (sc : Scope) (X : Cx) : Prop where
  hN : X.N = N
  nd : N.Nodup
  hsc : X.env.scope = sc
  hK : X.K = G.K
  calm : X.calm = true
  room : Room k X.A
  fn : ∀ i x, T.fns[i]? = some x → ∃ a fd ps, X.mg x = some (.ref a) ∧ PySem.W.keepIn X.K (.ref a) = true ∧ Binds X.K fd ps [] ∧ FnOk X.prog X.w X.K X.mg X.base (L2.CX X.prog X.w) k a fd ps (G.sp i)
  glb : ∀ i x, T.glbs[i]? = some x → ∃ u, X.mg x = some u ∧ RelV (G.gv i) u
  cls : ∀ i x, T.cls[i]? = some x → X.mg x = some (.ref (G.cl i)) ∧ ClF X.prog X.K (G.cl i) (G.hv i)
  blt : ∀ b : Bi, X.mg b.name = none
  tys : ∀ t ∈ tyNames, X.mg (Str.ofString t) = none
  rng : X.mg "range" = none
  enu : X.mg "enumerate" = none
  zp : X.mg "zip" = none
section
variable {T : Tab} {G : Gv} {k : Nat} {N : List Str} {sc : Scope} {X : Cx}
theorem CxOk.hu (C : CxOk T G k N sc X) : X.A.units + 65 < cLine := by
  have := C.room.un
  omega
theorem CxOk.blk (C : CxOk T G k N sc X) {s : Shared} {H : Hp} {scope : Scope} {cl : List (Str × Addr)} {Ca : Addr} {fp : List Addr} : CxOk T G k N (relS scope sc) (X.blk s H scope (compEnvC scope cl Ca X.env) fp) :=
  ⟨C.hN, C.nd, by rw [← C.hsc]; rfl, C.hK, C.calm, C.room, C.fn, C.glb, C.cls, C.blt, C.tys, C.rng, C.enu, C.zp⟩
theorem nm_ok (C : CxOk T G k N sc X) {i : Nat} {x : Str} {pos : Pos} (h : nmOk N sc i x = true) : PE X (.Name x pos) (tVar i) := by
  unfold nmOk at h
  simp only [Bool.and_eq_true, Bool.not_eq_true', decide_eq_true_eq] at h
  obtain ⟨⟨⟨h1, h2⟩, h3⟩, h4⟩ := h
  refine pe_var (by rw [C.hN]; exact h1) ?_ h3 h4
  rw [C.hsc]
  unfold Vis
  split at h2
  · exact .inl (by assumption)
  · exact .inr (.inl (by assumption))
  · exact .inr (.inr (by assumption))
  · cases h2
theorem gl_ok (C : CxOk T G k N sc X) {x : Str} (h : glOk sc x = true) : Gl X x ∧ (x == ("__debug__" : Str)) = false ∧ x ≠ "__name__" := by
  unfold glOk at h
  simp only [Bool.and_eq_true, Bool.not_eq_true', decide_eq_true_eq, beq_eq_false_iff_ne, ne_eq] at h
  refine ⟨?_, by simpa using h.1.2, h.2⟩
  show X.env.scope.names.lookup x = some .globalImplicit
  rw [C.hsc]
  exact h.1.1
end
end MP
namespace MP
open PySem L2 PyProof.Rows PySem.Spec
section
variable {T : Tab} {N : List Str} {sc : Scope}
theorem inv_star {m : ME} {e : PySem.Expr} {p : Pos} (h : chkE T N sc m (.Starred e p) = true) : False := by
  unfold chkE at h
  split at h <;> first | (rename_i q; cases q; done) | (simp at *; done)
theorem star_one {m : ME} {e : PySem.Expr} (h : chkE T N sc m e = true) (env : Env) (es : List PySem.Expr) : starEach (e :: es) env = (false, eval e env) :: starEach es env := by
  cases e <;> first | rfl | exact (inv_star h).elim
theorem any_star {pos : Pos} {env : Env} : ∀ {as : MEs} {es : List PySem.Expr}, chkEs T N sc as es = true → (backTo pos (starEach es env)).any (·.1) = false
  | .nil, [], _ => rfl
  | .nil, _ :: _, h => by simp [chkEs] at h
  | .cons _ _, [], h => by simp [chkEs] at h
  | .cons a as, e :: es, h => by
    unfold chkEs at h
    rw [Bool.and_eq_true] at h
    rw [star_one h.1]
    show ((false, eval e env) :: backTo pos (starEach es env)).any (·.1) = false
    rw [List.any_cons, any_star h.2]
    rfl
theorem all_nostar {pos : Pos} {env : Env} : ∀ {as : MEs} {es : List PySem.Expr}, chkEs T N sc as es = true → (backTo pos (starEach es env)).all (fun x => !x.1) = true
  | .nil, [], _ => rfl
  | .nil, _ :: _, h => by simp [chkEs] at h
  | .cons _ _, [], h => by simp [chkEs] at h
  | .cons a as, e :: es, h => by
    unfold chkEs at h
    rw [Bool.and_eq_true] at h
    rw [star_one h.1]
    show ((false, eval e env) :: backTo pos (starEach es env)).all (fun x => !x.1) = true
    rw [List.all_cons, all_nostar h.2]
    rfl
theorem plain_base {o : PySem.Expr} {x : Str} {env : Env} {w : Sem Value} (h : plainBase o = true) : attributeBase o x env w = w := by
  unfold plainBase at h
  split at h
  · exact abase_call h
  · rename_i hn
    unfold attributeBase
    split
    · exact absurd rfl (hn _ _ _)
    · rfl
theorem inv_slice {m : ME} {lo hi st : Option PySem.Expr} {p : Pos} (h : chkE T N sc m (.Slice lo hi st p) = true) : False := by
  unfold chkE at h
  split at h <;> first | (rename_i q; cases q; done) | (simp at *; done)
theorem plain_ix {m : ME} {e : PySem.Expr} (h : chkE T N sc m e = true) (o i : Value) : subscripted e false o i = operate [o, i] (getItem o i) := by
  cases e <;> first | rfl | exact (inv_slice h).elim
theorem inv_set {m : ME} {l : List PySem.Expr} {n : Nat} {p : Pos} (h : chkE T N sc m (.Set l n p) = true) : False := by
  unfold chkE at h
  split at h <;> first | (rename_i q; cases q; done) | (simp at *; done)
theorem no_behind {m : ME} {e : PySem.Expr} {op : CmpOp} (h : chkE T N sc m e = true) : behindInMarks op e = false := by
  cases e <;> first | rfl | exact (inv_set h).elim
theorem no_last {m m2 : ME} {e e2 : PySem.Expr} {op op2 : CmpOp} (h : chkE T N sc m e = true) (h2 : chkE T N sc m2 e2 = true) : lastMarks [op, op2] [e, e2] = false := by
  show behindInMarks op2 e2 = false
  exact no_behind h2
theorem no_fold {e : PySem.Expr} {env : Env} (h : isSet e = false) : ∀ x, foldedSetIterable e env x = pure x := by
  intro x
  cases e <;> first | rfl | cases h
end

/-! ## the readings are right -/
structure All (T : Tab) (G : Gv) (k : Nat) (N : List Str) (n : Nat) : Prop where
  pe : ∀ m : ME, sizeOf m < n → ∀ (sc : Scope) (X : Cx) (W : WX) (e : PySem.Expr), CxOk T G k N sc X → Takes X W → chkE T N sc m e = true → PE X e (rdE G W m)
  pt : ∀ m : ME, sizeOf m < n → ∀ (sc : Scope) (X : Cx) (W : WX) (e : PySem.Expr), CxOk T G k N sc X → Takes X W → chkE T N sc m e = true → PT X e (rdT G W m)
  pw : ∀ m : ME, sizeOf m < n → ∀ (sc : Scope) (X : Cx) (W : WX) (op : PySem.BoolOp) (l : List PySem.Expr) (pos : Pos), CxOk T G k N sc X → Takes X W → chkE T N sc m (.BoolOp op l pos) = true → PW X (.BoolOp op l pos) (rdT G W m)
  pa : ∀ m : MEs, sizeOf m < n → ∀ (sc : Scope) (X : Cx) (W : WX) (e : List PySem.Expr), CxOk T G k N sc X → Takes X W → chkEs T N sc m e = true → PA X e (rdEs G W m)
  po : ∀ m : MO, sizeOf m < n → ∀ (sc : Scope) (X : Cx) (W : WX) (e : Option PySem.Expr), CxOk T G k N sc X → Takes X W → chkO T N sc m e = true → PO X e (rdO G W m)
  pf : ∀ m : MO, sizeOf m < n → ∀ (sc : Scope) (X : Cx) (W : WX) (e : List PySem.Expr), CxOk T G k N sc X → Takes X W → chkIf T N sc m e = true → PTs X e (rdIf G W m)
  pi : ∀ m : MEs, sizeOf m < n → ∀ (q : IK) (sc : Scope) (X : Cx) (W : WX) (tg e : PySem.Expr), CxOk T G k N sc X → Takes X W → tgTup q tg = true → chkI T N sc q m e = true → PI X tg e (rdI G W q m)
section
variable {T : Tab} {G : Gv} {k : Nat} {N : List Str} {n : Nat} {sc : Scope} {X : Cx} {W : WX}
theorem tg_name (C : CxOk T G k N sc X) {i : Nat} {x : Str} {pos : Pos} (h : (decide (N[i]? = some x) && (match sc.names.lookup x with | some .local => true | some .cell => true | _ => false)) = true) (hf : X.fn x = true ∨ sc.names.lookup x = some .local) : PG X (.Name x pos) (gName i) := by
  rw [Bool.and_eq_true] at h
  have h1 := of_decide_eq_true h.1
  have h2 := h.2
  have hloc : L2.Loc X.env.scope x := by
    unfold L2.Loc
    rw [C.hsc]
    split at h2
    · exact .inl (by assumption)
    · exact .inr (by assumption)
    · cases h2
  exact pg_name (by rw [C.hN]; exact C.nd) (by rw [C.hN]; exact h1) hloc (by rw [C.hsc]; exact hf)
theorem tg_names (C : CxOk T G k N sc X) : ∀ {is : List Nat} {es : List PySem.Expr}, tgOk.go N sc is es = true → (∀ x p, .Name x p ∈ es → X.fn x = true ∨ sc.names.lookup x = some .local) →
    PGs X es (rdTgs is) ∧ (assignEach es X.env).length = is.length ∧ (assignEach es X.env).findIdx? (·.1) = none
  | [], [], _, _ => ⟨pgs_nil, rfl, rfl⟩
  | [], _ :: _, h, _ => by simp [tgOk.go] at h
  | _ :: _, [], h, _ => by simp [tgOk.go] at h
  | i :: is, e :: es, h, hf => by
    unfold tgOk.go at h
    split at h <;> try (simp at *; done)
    rename_i e1 e2
    cases e1
    cases e2
    rw [Bool.and_eq_true] at h
    obtain ⟨g1, g2, g3⟩ := tg_names C h.2 fun x p hx => hf x p (List.mem_cons_of_mem _ hx)
    refine ⟨pgs_cons (tg_name C h.1 (hf _ _ List.mem_cons_self)) g1 rfl, ?_, ?_⟩
    · show (assignEach es X.env).length + 1 = is.length + 1
      rw [g2]
    · show List.findIdx? (·.1) ((false, assign _ X.env) :: assignEach es X.env) = none
      rw [List.findIdx?_cons]
      simp [g3]
theorem tg_ok (C : CxOk T G k N sc X) {tm : MT} {tg : PySem.Expr} (h : tgOk N sc tm tg = true) (hf : (∀ x, X.fn x = true) ∨ tgLoc sc tm tg = true) : PG X tg (rdTg G.K tm) := by
  unfold tgOk at h
  split at h
  · refine tg_name C h ?_
    rcases hf with hf | hf
    · exact .inl (hf _)
    · exact .inr (by simpa [tgLoc] using hf)
  · obtain ⟨g1, g2, g3⟩ := tg_names C h fun x p hx => by
      rcases hf with hf | hf
      · exact .inl (hf _)
      · right
        have := (List.all_eq_true.mp (by simpa only [tgLoc] using hf)) _ hx
        simpa using this
    show PG X _ (gTup G.K _ _)
    rw [← C.hK]
    exact pg_tup C.calm g1 g2 g3
  · cases h
end
end MP
namespace MP
open PySem L2 PyProof.Rows PySem.Spec
def Bi.val (b : Bi) : Value := match b.isTy with | some t => .type t | none => .builtin b.bid
section
variable {X : Cx}
theorem bi_ok (hc : X.calm = true) (b : Bi) : CallR X b.val (rBi X.K b) := by
  cases b
  · -- len
    intro pins s σ H xs us Q I r h
    rcases h with h | ⟨p, kvs, rfl, e, q⟩
    · exact call_len pins s σ H xs us Q I r h
    · obtain ⟨u, rfl, ru⟩ := vals1 r
      cases ru
      exact d_len I e fun t s' I' => ⟨.int (kvs.length : Nat), H, I', ⟨t, rfl⟩, q⟩
  · intro pins s σ H xs us Q I r h
    rcases h with h | h
    · exact call_isi pins s σ H xs us Q I r h
    · exact MPX.call_isX pins s σ H xs us Q I r h
  · exact call_max2 hc
  · exact cr_sum hc
  · exact fun _ _ _ _ _ _ _ _ _ h => h.elim
  · intro pins s σ H xs us Q I r h
    obtain ⟨x, rfl, h⟩ := h
    refine call_int1 pins s σ H [x] us Q I r ?_
    rcases h with ⟨i, rfl, q⟩ | ⟨b, rfl, q⟩
    · exact .inl ⟨i, rfl, q⟩
    · exact .inr ⟨b, rfl, q⟩
  · exact call_list_of
  · exact call_tuple_of
  · exact fun _ _ _ _ _ _ _ _ _ h => h.elim
  · exact fun _ _ _ _ _ _ _ _ _ h => h.elim
theorem bi_boot (b : Bi) : bootBuiltins b.name = some b.val := by
  cases b <;> decide +kernel
theorem bi_name (b : Bi) : b.name ≠ "__name__" ∧ (b.name == ("__debug__" : Str)) = false := by
  cases b <;> decide +kernel
theorem pe_bi {b : Bi} {e : PySem.Expr} {es : List PySem.Expr} {t : TA} {p pos : Pos} (hc : X.calm = true) (hg : Gl X b.name) (hm : X.mg b.name = none) (ha : PA X (e :: es) t)
    (he : starEach (e :: es) X.env = (false, eval e X.env) :: starEach es X.env) (hpl : (backTo pos (starEach es X.env)).any (·.1) = false) : PE X (.Call (.Name b.name p) (e :: es) [] pos) (tCB (rBi X.K b) t) := by
  have hb := bi_ok hc b
  have hv := bi_boot b
  unfold Bi.val at hb hv
  cases q : b.isTy with
  | none =>
    rw [q] at hb hv
    exact pe_callB hb hg hm hv ha (bi_name b).1 (bi_name b).2 he hpl
  | some t' =>
    rw [q] at hb hv
    exact pe_callTy hb hg hm hv ha (bi_name b).1 (bi_name b).2 he hpl
theorem pe_callS0 {CX : CXT} {k : Nat} {f : Addr} {fd : FuncData} {ps : List Str} {sp : Sp} {E : L2.St → XK} {x : Str} {p pos : Pos} (F : FnOk X.prog X.w X.K X.mg X.base CX k f fd ps sp) (hr : Room k X.A) (hg : Gl X x) (hm : X.mg x = some (.ref f)) (hk : PySem.W.keepIn X.K (.ref f) = true) (hb : Binds X.K fd ps []) (hx : ∀ σ, PassesAt CX X σ (E σ))
    (hdb : (x == ("__debug__" : Str)) = false := by decide) : PE X (.Call (.Name x p) [] [] pos) (tCallS sp E tNil) := by
  refine ⟨fun pins s σ H Q I h => ?_⟩
  refine wpAny_Call_Name_kw (ld_glob I hg hm ?_ hdb)
  exact PySem.W.callWith_K0 I.kIn hk (run_fnS (us := []) F hr hb (hx σ) I .nil h)
theorem ix_dict (hu : X.A.units + 1 < cLine) : IxR X (fun x y H Q => ∃ a v, x = .ref a ∧ DGet H a y (some v) ∧ Q v H) := by
  intro value slice pins s σ H x y v u Q I rx ry h hs
  obtain ⟨a, w, rfl, g, q⟩ := h
  cases rx
  exact tail_any (ops := [.ref a, u]) (dict_typeIs I g) PySem.F.slot_dict_getitem.lookup (d_getItem hu I g ry fun w' s' I' r' => ⟨w, H, I', r', q⟩) hs
theorem mt_ok (k : Mt) : MtR X (match k with | .append => "list.append" | .pop0 => "list.pop" | .popAt => "list.pop") (rMt X.K k) := by
  cases k
  · exact mt_append
  · exact mt_pop
  · exact mt_popAt
theorem ty_boot {t : String} (h : t ∈ tyNames) : bootBuiltins (Str.ofString t) = some (.type t) ∧ Str.ofString t ≠ "__name__" ∧ (Str.ofString t == ("__debug__" : Str)) = false := by
  unfold tyNames at h
  simp only [List.mem_cons, List.not_mem_nil, or_false] at h
  rcases h with rfl | rfl | rfl | rfl | rfl | rfl | rfl <;> decide +kernel
theorem few_star {N : List Str} {T : Tab} {sc : Scope} {a : ME} {as : MEs} {e : PySem.Expr} {es : List PySem.Expr} {cpos : Pos} (h : chkEs T N sc (.cons a as) (e :: es) = true) (hl : es.length < 20) : ((backTo cpos (starEach (e :: es) X.env)).all (fun x => !x.1) && (backToKw cpos (keywordEach [] X.env)).all (fun x => x.1.isSome)
      && decide ((e :: es).length + ([] : List Keyword).length + (if ([] : List Keyword).isEmpty then 0 else 1) < 30)) = true := by
  rw [all_nostar h]
  have : (e :: es).length + ([] : List Keyword).length + (if ([] : List Keyword).isEmpty then 0 else 1) < 30 := by
    simp only [List.length_cons, List.length_nil, List.isEmpty_nil, if_true]
    omega
  rw [decide_eq_true this]
  rfl
theorem pe_mt {N : List Str} {T : Tab} {sc : Scope} {k : Mt} {a : ME} {as : MEs} {o e : PySem.Expr} {es : List PySem.Expr} {to : TE} {t : TA} {apos cpos : Pos} (hk : k ≠ .pop0) (ho : PE X o to) (ha : PA X (e :: es) t) (hb : plainBase o = true) (hl : (apos.endLine == cpos.line) = true)
    (hc : chkEs T N sc (.cons a as) (e :: es) = true) (hn : es.length < 20) : PE X (.Call (.Attribute o k.name apos) (e :: es) [] cpos) (tBM X.K k.ty (rMt X.K k) to t) := by
  have h0 := hc
  unfold chkEs at h0
  rw [Bool.and_eq_true] at h0
  cases k
  · exact pe_bm PySem.F.plainAttrs_list PySem.F.slot_list_append PySem.F.type_list_append (mt_ok .append) ho ha (plain_base hb) (few_star hc hn) hl (star_one h0.1 _ _) (any_star h0.2)
  · exact absurd rfl hk
  · exact pe_bm PySem.F.plainAttrs_list PySem.F.slot_list_pop PySem.F.type_list_pop (mt_ok .popAt) ho ha (plain_base hb) (few_star hc hn) hl (star_one h0.1 _ _) (any_star h0.2)
end
end MP
namespace MP
open PySem L2 PyProof.Rows PySem.Spec
section
variable {T : Tab} {G : Gv} {k : Nat} {N : List Str} {n : Nat}
theorem cst_ok {X : Cx} {c : Cst} {d : Const} {j : Nat} {pos : Pos} (h : cstOk c d = true) : PE X (.Constant d j pos) (tC c.v) := by
  unfold cstOk at h
  split at h
  · exact pe_non
  · have := eq_of_beq h
    subst this
    exact pe_bl
  · have := of_decide_eq_true h
    subst this
    exact pe_int
  · have := of_decide_eq_true h
    subst this
    exact pe_str
  · cases h
theorem inv_cons {sc : Scope} {as : MEs} {e : PySem.Expr} {es : List PySem.Expr} (h : chkEs T N sc as (e :: es) = true) : ∃ a r, as = .cons a r ∧ chkE T N sc a e = true ∧ chkEs T N sc r es = true := by
  cases as with
  | nil => simp [chkEs] at h
  | cons a r =>
    unfold chkEs at h
    rw [Bool.and_eq_true] at h
    exact ⟨a, r, rfl, h.1, h.2⟩
theorem pe_mk {sc : Scope} {X : Cx} {W : WX} {e : PySem.Expr} {c : Nat} {as : MEs} {kw : Bool} (C : CxOk T G k N sc X) (h : chkE T N sc (.mk c as kw) e = true) (ha : ∀ a b, as = .cons a .nil → chkE T N sc a b = true → PE X b (rdE G W a)) : PE X e (rdE G W (.mk c as kw)) := by
  generalize hm : ME.mk c as kw = m at h
  unfold chkE at h
  split at h <;> cases hm
  · simp only [Bool.and_eq_true, decide_eq_true_eq] at h
    obtain ⟨⟨h1, h2⟩, h3⟩ := h
    obtain ⟨hg, hd, hn⟩ := gl_ok C h1
    obtain ⟨hmg, hk, hc⟩ := C.cls _ _ h2
    by_cases hv : G.hv c = true
    · rw [if_pos hv] at hc
      unfold rdE
      rw [if_pos hv]
      exact MPX.pe_mkV hc C.room hg hmg (ha _ _ rfl h3) hd (star_one h3 _ _)
    · unfold rdE
      rw [if_neg hv]
      exact ⟨fun _ _ _ _ _ _ h => h.elim⟩
  · simp only [Bool.and_eq_true, decide_eq_true_eq] at h
    obtain ⟨h1, h2⟩ := h
    obtain ⟨hg, hd, hn⟩ := gl_ok C h1
    obtain ⟨hmg, hk, hc⟩ := C.cls _ _ h2
    by_cases hv : G.hv c = true
    · rw [if_pos hv] at hc
      unfold rdE
      rw [if_pos hv]
      exact MPX.pe_mk0 hc C.room hg hmg hd
    · rw [if_neg hv] at hc
      unfold rdE
      rw [if_neg hv]
      exact MPX.pe_mkN PySem.F.excBase_ValueError hc hmg hk hg hd
  · simp only [Bool.and_eq_true, decide_eq_true_eq] at h
    obtain ⟨⟨⟨h1, h4⟩, h2⟩, h3⟩ := h
    subst h4
    obtain ⟨hg, hd, hn⟩ := gl_ok C h1
    obtain ⟨hmg, hk, hc⟩ := C.cls _ _ h2
    by_cases hv : G.hv c = true
    · rw [if_pos hv] at hc
      unfold rdE
      rw [if_pos hv]
      exact MPX.pe_mkK hc C.room hg hmg (ha _ _ rfl h3) hd
    · unfold rdE
      rw [if_neg hv]
      exact ⟨fun _ _ _ _ _ _ h => h.elim⟩
  · cases h
theorem pe_step (A : All T G k N n) (m : ME) (hs : sizeOf m < n + 1) (sc : Scope) (X : Cx) (W : WX) (e : PySem.Expr) (C : CxOk T G k N sc X) (tk : Takes X W) (h : chkE T N sc m e = true) : PE X e (rdE G W m) := by
  have hu := C.hu
  unfold chkE at h
  split at h
  · exact nm_ok C h
  · exact cst_ok h
  · rw [Bool.and_eq_true] at h
    obtain ⟨hg, hd, hn⟩ := gl_ok C h.1
    obtain ⟨u, hm, r⟩ := C.glb _ _ (of_decide_eq_true h.2)
    exact pe_glob hg hm r hd
  · simp only [Bool.and_eq_true, decide_eq_true_eq] at h
    obtain ⟨⟨h1, h2⟩, h3⟩ := h
    subst h2
    obtain ⟨hg, hd, hn⟩ := gl_ok C h1
    obtain ⟨b1, b2, b3⟩ := ty_boot h3
    exact pe_bltn hg (C.tys _ h3) b1 rfl b2 b3
  · simp only [Bool.and_eq_true, decide_eq_true_eq] at h
    simp at hs
    have := op_bin (X := X) h.1.1
    rw [C.hK] at this
    exact pe_op this (A.pe _ (by omega) sc X W _ C tk h.1.2) (A.pe _ (by omega) sc X W _ C tk h.2)
  · simp only [Bool.and_eq_true, decide_eq_true_eq] at h
    simp at hs
    have := op_cmp (X := X) hu h.1.1
    rw [C.hK] at this
    exact pe_cmpR this (A.pe _ (by omega) sc X W _ C tk h.1.2) (A.pe _ (by omega) sc X W _ C tk h.2) (no_behind h.2)
  · simp only [Bool.and_eq_true, decide_eq_true_eq] at h
    simp at hs
    obtain ⟨⟨⟨⟨h1, h2⟩, h3⟩, h4⟩, h5⟩ := h
    have o1 := op_cmp (X := X) hu h1
    have o2 := op_cmp (X := X) hu h2
    rw [C.hK] at o1 o2
    exact pe_chain o1 o2 (A.pe _ (by omega) sc X W _ C tk h3) (A.pe _ (by omega) sc X W _ C tk h4) (A.pe _ (by omega) sc X W _ C tk h5) (no_last h4 h5)
  · simp at hs
    exact pe_un un_neg (A.pe _ (by omega) sc X W _ C tk h)
  · simp at hs
    show PE X _ (tNotT G.K (rdE G W _))
    rw [← C.hK]
    exact pe_notT (A.pe _ (by omega) sc X W _ C tk h)
  · simp only [Bool.and_eq_true] at h
    simp at hs
    show PE X _ (tAndT G.K (rdE G W _) (rdE G W _))
    rw [← C.hK]
    exact pe_andT (A.pe _ (by omega) sc X W _ C tk h.1) (pe_one (A.pe _ (by omega) sc X W _ C tk h.2))
  · simp only [Bool.and_eq_true] at h
    simp at hs
    show PE X _ (tAndT G.K (rdE G W _) (rdE G W _))
    rw [← C.hK]
    exact pe_andT (A.pe _ (by omega) sc X W _ C tk h.1) (A.pe _ (by omega) sc X W _ C tk h.2)
  · simp only [Bool.and_eq_true] at h
    simp at hs
    show PE X _ (tOrT G.K (rdE G W _) (rdE G W _))
    rw [← C.hK]
    exact pe_orT (A.pe _ (by omega) sc X W _ C tk h.1) (pe_one (A.pe _ (by omega) sc X W _ C tk h.2))
  · simp only [Bool.and_eq_true] at h
    simp at hs
    show PE X _ (tOrT G.K (rdE G W _) (rdE G W _))
    rw [← C.hK]
    exact pe_orT (A.pe _ (by omega) sc X W _ C tk h.1) (A.pe _ (by omega) sc X W _ C tk h.2)
  · simp only [Bool.and_eq_true] at h
    simp at hs
    exact pe_ifExp (A.pt _ (by omega) sc X W _ C tk h.1.1) (A.pe _ (by omega) sc X W _ C tk h.1.2) (A.pe _ (by omega) sc X W _ C tk h.2)
  · simp at hs
    exact pe_tup (A.pa _ (by omega) sc X W _ C tk h)
  · simp at hs
    exact pe_lst (A.pa _ (by omega) sc X W _ C tk h)
  · simp only [Bool.and_eq_true] at h
    simp at hs
    have i1 := IxR.or ix_seq (ix_dict (X := X) (by omega))
    rw [C.hK] at i1
    exact pe_ix i1 (A.pe _ (by omega) sc X W _ C tk h.1) (A.pe _ (by omega) sc X W _ C tk h.2) (plain_ix h.2)
  · simp only [Bool.and_eq_true] at h
    simp at hs
    have i1 : SlR X (rSl X.K) := SlR.or sl_list (SlR.or sl_tupA sl_str)
    rw [C.hK] at i1
    exact pe_slice i1 (A.pe _ (by omega) sc X W _ C tk h.1.1) (A.po _ (by omega) sc X W _ C tk h.1.2) (A.po _ (by omega) sc X W _ C tk h.2)
  · simp only [Bool.and_eq_true, decide_eq_true_eq] at h
    simp at hs
    obtain ⟨⟨h1, h2⟩, h3⟩ := h
    subst h2
    have h0 := h3
    obtain ⟨hg, hd, hn⟩ := gl_ok C h1
    have ha := A.pa _ (by omega) sc X W _ C tk h3
    obtain ⟨a, as, q, g1, g2⟩ := inv_cons h3
    show PE X _ (tCB (rBi G.K _) _)
    rw [← C.hK]
    exact pe_bi C.calm hg (C.blt _) ha (star_one g1 _ _) (any_star g2)
  · simp only [Bool.and_eq_true, decide_eq_true_eq] at h
    simp at hs
    obtain ⟨⟨⟨⟨⟨⟨h1, h2⟩, h3⟩, h4⟩, h5⟩, h6⟩, h7⟩ := h
    subst h2
    show PE X _ (tBM G.K _ (rMt G.K _) (rdE G W _) _)
    rw [← C.hK]
    exact pe_mt h3 (A.pe _ (by omega) sc X W _ C tk h6) (A.pa (.cons _ _) (by simp; omega) sc X W _ C tk h7) h1 h4 h7 h5
  · simp only [Bool.and_eq_true, decide_eq_true_eq] at h
    simp at hs
    obtain ⟨⟨⟨h1, h2⟩, h3⟩, h4⟩ := h
    subst h2
    show PE X _ (tBM0 G.K _ (rMt G.K .pop0) (rdE G W _))
    rw [← C.hK]
    exact pe_bm0 (X := X) PySem.F.plainAttrs_list PySem.F.slot_list_pop PySem.F.type_list_pop (mt_ok .pop0) (A.pe _ (by omega) sc X W _ C tk h4) (plain_base h1) h3
  · simp only [Bool.and_eq_true, decide_eq_true_eq] at h
    simp at hs
    obtain ⟨⟨⟨h1, h2⟩, h3⟩, h4⟩ := h
    subst h2
    exact pe_bits (A.pe _ (by omega) sc X W _ C tk h4) (plain_base h1) h3
  · simp only [Bool.and_eq_true, decide_eq_true_eq] at h
    simp at hs
    obtain ⟨⟨h1, h2⟩, h3⟩ := h
    obtain ⟨hg, hd, hn⟩ := gl_ok C h1
    obtain ⟨a, fd, ps, hm, hk, hb, F⟩ := C.fn _ _ h2
    have ha := A.pa _ (by omega) sc X W _ C tk h3
    obtain ⟨a', as', q, g1, g2⟩ := inv_cons h3
    exact pe_callS F C.room hg hm hk hb (fun σ => passAt tk σ) ha hd (star_one g1 _ _) (any_star g2)
  · simp only [Bool.and_eq_true, decide_eq_true_eq] at h
    obtain ⟨hg, hd, hn⟩ := gl_ok C h.1
    obtain ⟨a, fd, ps, hm, hk, hb, F⟩ := C.fn _ _ h.2
    exact pe_callS0 F C.room hg hm hk hb (fun σ => passAt tk σ) hd
  · rename_i c a x p e pos
    have h0 : chkE T N sc (.mk c (.cons a .nil) false) (.Call (.Name x p) [e] [] pos) = true := by unfold chkE; exact h
    exact pe_mk C h0 fun a b ea hb => by cases ea; exact A.pe _ (by simp at hs ⊢; omega) sc X W _ C tk hb
  · rename_i c x p pos
    have h0 : chkE T N sc (.mk c .nil false) (.Call (.Name x p) [] [] pos) = true := by unfold chkE; exact h
    exact pe_mk C h0 fun a b ea hb => by cases ea
  · rename_i c a x p n e kp pos
    have h0 : chkE T N sc (.mk c (.cons a .nil) true) (.Call (.Name x p) [] [⟨some n, e, kp⟩] pos) = true := by unfold chkE; exact h
    exact pe_mk C h0 fun a b ea hb => by cases ea; exact A.pe _ (by simp at hs ⊢; omega) sc X W _ C tk hb
  · simp only [Bool.and_eq_true, decide_eq_true_eq] at h
    simp at hs
    obtain ⟨⟨h1, h2⟩, h3⟩ := h
    subst h1
    show PE X _ (MPX.tVal G.K (rdE G W _))
    rw [← C.hK]
    exact MPX.pe_val (A.pe _ (by omega) sc X W _ C tk h3) (plain_base h2)
  · rw [Bool.and_eq_true] at h
    simp at hs
    have hop := MPX.op_eqX (X := X) (by omega)
    rw [C.hK] at hop
    exact pe_cmpR hop (A.pe _ (by omega) sc X W _ C tk h.1) (A.pe _ (by omega) sc X W _ C tk h.2) (no_behind h.2)
  · simp only [Bool.and_eq_true, Bool.not_eq_true'] at h
    simp at hs
    obtain ⟨⟨⟨⟨⟨⟨⟨h1, h2⟩, h3⟩, hq⟩, h4⟩, h5⟩, h6⟩, h7⟩ := h
    have Cb := fun (s : Shared) (H : Hp) (Ca : Addr) (cl : List (Str × Addr)) (fp : List Addr) (scope : Scope) => CxOk.blk (s := s) (H := H) (scope := scope) (cl := cl) (Ca := Ca) (fp := fp) C
    refine pe_lc C.calm (by rw [C.hN]; exact C.nd) (A.pi _ (by omega) _ sc X W _ _ C tk hq h4) (blkOk_by (by rw [C.hN, C.hsc]; exact h1)) (fun s H Ca cl fp => ?_) (fun s H Ca cl fp => ?_) (fun s H Ca cl fp => ?_) (no_fold h5)
    · exact tg_ok (Cb s H Ca cl fp _) h2 (.inr h3)
    · exact A.pf _ (by omega) _ _ _ _ (Cb s H Ca cl fp _) takes0 h6
    · exact A.pe _ (by omega) _ _ _ _ (Cb s H Ca cl fp _) takes0 h7
  · cases h
end
end MP
namespace MP
open PySem L2 PyProof.Rows PySem.Spec
section
variable {T : Tab} {G : Gv} {k : Nat} {N : List Str} {n : Nat}
theorem pt_no {X : Cx} {e : PySem.Expr} : PT X e (fun _ _ _ => False) := ⟨fun _ _ _ _ _ _ h => h.elim⟩
theorem pw_step (A : All T G k N n) (m : ME) (hs : sizeOf m < n + 1) (sc : Scope) (X : Cx) (W : WX) (op : PySem.BoolOp) (l : List PySem.Expr) (pos : Pos) (C : CxOk T G k N sc X) (tk : Takes X W) (h : chkE T N sc m (.BoolOp op l pos) = true) : PW X (.BoolOp op l pos) (rdT G W m) := by
  generalize he : PySem.Expr.BoolOp op l pos = e at h
  unfold chkE at h
  split at h <;> cases he
  · simp only [Bool.and_eq_true] at h
    simp at hs
    exact pw_and (A.pt _ (by omega) sc X W _ C tk h.1) (pw_and1 (A.pt _ (by omega) sc X W _ C tk h.2))
  · simp only [Bool.and_eq_true] at h
    simp at hs
    exact pw_and (A.pt _ (by omega) sc X W _ C tk h.1) (A.pw _ (by omega) sc X W _ _ _ C tk h.2)
  · simp only [Bool.and_eq_true] at h
    simp at hs
    exact pw_or (A.pt _ (by omega) sc X W _ C tk h.1) (pw_or1 (A.pt _ (by omega) sc X W _ C tk h.2))
  · simp only [Bool.and_eq_true] at h
    simp at hs
    exact pw_or (A.pt _ (by omega) sc X W _ C tk h.1) (A.pw _ (by omega) sc X W _ _ _ C tk h.2)
  · cases h
theorem pt_step (A : All T G k N n) (m : ME) (hs : sizeOf m < n + 1) (sc : Scope) (X : Cx) (W : WX) (e : PySem.Expr) (C : CxOk T G k N sc X) (tk : Takes X W) (h : chkE T N sc m e = true) : PT X e (rdT G W m) := by
  have hu := C.hu
  have hpe := pe_step A m hs sc X W e C tk h
  have h0 := h
  unfold chkE at h
  split at h
  · show PT X _ (tTru G.K (tVar _)); rw [← C.hK]; exact pt_truth hpe (fun _ => rfl)
  · show PT X _ (tTru G.K (tC _)); rw [← C.hK]; exact pt_truth hpe (fun _ => rfl)
  · show PT X _ (tTru G.K (tC _)); rw [← C.hK]; exact pt_truth hpe (fun _ => rfl)
  · exact pt_no
  · rename_i o mf a b l p r pos
    simp only [Bool.and_eq_true, decide_eq_true_eq] at h
    have hc : o.cmp.isSome = false := by
      cases o <;> first | rfl | cases h.1.1
    unfold rdT
    rw [hc]
    show PT X _ (tTru G.K _); rw [← C.hK]
    have hpe' : PE X (.BinOp l p r pos) (tOp (r2 X.K o) (rdE G W a) (rdE G W b)) := by rw [C.hK]; exact hpe
    exact pt_truth hpe' (fun _ => rfl)
  · rename_i o mf a b l p r pos
    simp only [Bool.and_eq_true, decide_eq_true_eq] at h
    simp at hs
    have hc : o.cmp.isSome = true := by rw [h.1.1]; rfl
    unfold rdT
    rw [hc, if_pos rfl]
    have := op_cmp (X := X) hu h.1.1
    rw [C.hK] at this
    exact pt_cmpR this (A.pe _ (by omega) sc X W _ C tk h.1.2) (A.pe _ (by omega) sc X W _ C tk h.2) (no_behind h.2)
  · simp only [Bool.and_eq_true, decide_eq_true_eq] at h
    simp at hs
    obtain ⟨⟨⟨⟨h1, h2⟩, h3⟩, h4⟩, h5⟩ := h
    have o1 := op_cmp (X := X) hu h1
    have o2 := op_cmp (X := X) hu h2
    rw [C.hK] at o1 o2
    exact pt_chain o1 o2 (A.pe _ (by omega) sc X W _ C tk h3) (A.pe _ (by omega) sc X W _ C tk h4) (A.pe _ (by omega) sc X W _ C tk h5) (no_last h4 h5)
  · exact pt_no
  · simp at hs
    exact pt_not (A.pt _ (by omega) sc X W _ C tk h)
  · exact (pw_step A _ hs sc X W _ _ _ C tk h0).pt
  · exact (pw_step A _ hs sc X W _ _ _ C tk h0).pt
  · exact (pw_step A _ hs sc X W _ _ _ C tk h0).pt
  · exact (pw_step A _ hs sc X W _ _ _ C tk h0).pt
  · exact pt_no
  · exact pt_no
  · exact pt_no
  · rename_i a b l r pos
    have hpe' : PE X (.Subscript l r pos) (tOp (rIxA X.K) (rdE G W a) (rdE G W b)) := by rw [C.hK]; exact hpe
    show PT X _ (tTru G.K _); rw [← C.hK]; exact pt_truth hpe' (fun _ => rfl)
  · exact pt_no
  · rename_i b _ as x p1 e es p2
    have hpe' : PE X (.Call (.Name x p1) (e :: es) [] p2) (tCB (rBi X.K b) (rdEs G W as)) := by rw [C.hK]; exact hpe
    show PT X _ (tTru G.K _); rw [← C.hK]; exact pt_truth hpe' (fun _ => rfl)
  · exact pt_no
  · exact pt_no
  · exact pt_no
  · show PT X _ (tTru G.K _); rw [← C.hK]; exact pt_truth hpe (fun _ => rfl)
  · show PT X _ (tTru G.K _); rw [← C.hK]; exact pt_truth hpe (fun _ => rfl)
  · exact pt_no
  · exact pt_no
  · exact pt_no
  · rename_i a e f pos
    have hpe' : PE X (.Attribute e f pos) (MPX.tVal X.K (rdE G W a)) := by rw [C.hK]; exact hpe
    show PT X _ (tTru G.K (MPX.tVal G.K _)); rw [← C.hK]; exact pt_truth hpe' (fun _ => rfl)
  · exact pt_no
  · exact pt_no
  · cases h
theorem pa_step (A : All T G k N n) (m : MEs) (hs : sizeOf m < n + 1) (sc : Scope) (X : Cx) (W : WX) (e : List PySem.Expr) (C : CxOk T G k N sc X) (tk : Takes X W) (h : chkEs T N sc m e = true) : PA X e (rdEs G W m) := by
  unfold chkEs at h
  split at h
  · exact pa_nil
  · rw [Bool.and_eq_true] at h
    simp at hs
    exact pa_cons (A.pe _ (by omega) sc X W _ C tk h.1) (A.pa _ (by omega) sc X W _ C tk h.2) (star_one h.1 _ _)
  · cases h
theorem po_step (A : All T G k N n) (m : MO) (hs : sizeOf m < n + 1) (sc : Scope) (X : Cx) (W : WX) (e : Option PySem.Expr) (C : CxOk T G k N sc X) (tk : Takes X W) (h : chkO T N sc m e = true) : PO X e (rdO G W m) := by
  unfold chkO at h
  split at h
  · exact po_none
  · simp at hs
    exact po_some (A.pe _ (by omega) sc X W _ C tk h)
  · cases h
theorem pf_step (A : All T G k N n) (m : MO) (hs : sizeOf m < n + 1) (sc : Scope) (X : Cx) (W : WX) (e : List PySem.Expr) (C : CxOk T G k N sc X) (tk : Takes X W) (h : chkIf T N sc m e = true) : PTs X e (rdIf G W m) := by
  unfold chkIf at h
  split at h
  · exact pts_nil
  · simp at hs
    exact pts_one (A.pt _ (by omega) sc X W _ C tk h)
  · cases h
theorem pi_step (A : All T G k N n) (m : MEs) (hs : sizeOf m < n + 1) (q : IK) (sc : Scope) (X : Cx) (W : WX) (tg e : PySem.Expr) (C : CxOk T G k N sc X) (tk : Takes X W) (ht : tgTup q tg = true) (h : chkI T N sc q m e = true) : PI X tg e (rdI G W q m) := by
  unfold chkI at h
  split at h
  · simp at hs
    show PI X tg _ (iList G.K _); rw [← C.hK]; exact pi_list (A.pe _ (by omega) sc X W _ C tk h)
  · simp at hs
    show PI X tg _ (iTup G.K _); rw [← C.hK]; exact pi_tup (A.pe _ (by omega) sc X W _ C tk h)
  · simp only [Bool.and_eq_true, decide_eq_true_eq] at h
    simp at hs
    obtain ⟨⟨h1, h2⟩, h3⟩ := h
    subst h2
    exact pi_range1 (gl_ok C h1).1 C.rng (pa_cons (A.pe _ (by omega) sc X W _ C tk h3) pa_nil (star_one h3 _ _)) (star_one h3 _ _)
  · simp only [Bool.and_eq_true, decide_eq_true_eq] at h
    simp at hs
    obtain ⟨⟨⟨h1, h2⟩, h3⟩, h4⟩ := h
    subst h2
    refine pi_range2 (gl_ok C h1).1 C.rng (pa_cons (A.pe _ (by omega) sc X W _ C tk h3) (pa_cons (A.pe _ (by omega) sc X W _ C tk h4) pa_nil (star_one h4 _ _)) (star_one h3 _ _)) ?_ (star_one h4 _ _)
    rw [star_one h3, star_one h4]
    rfl
  · simp only [Bool.and_eq_true, decide_eq_true_eq] at h
    simp at hs
    obtain ⟨⟨h1, h2⟩, h3⟩ := h
    subst h2
    unfold tgTup at ht
    split at ht <;> try (cases ht; done)
    · show PI X _ _ (iEnum G.K _); rw [← C.hK]; exact pi_enum (gl_ok C h1).1 C.enu (pa_cons (A.pe _ (by omega) sc X W _ C tk h3) pa_nil (star_one h3 _ _)) (star_one h3 _ _)
    all_goals (rename_i q1 q2 q3 q4; first | exact absurd rfl q1 | exact absurd rfl q2 | exact absurd rfl q3 | exact absurd rfl q4 | contradiction)
  · simp only [Bool.and_eq_true, decide_eq_true_eq] at h
    simp at hs
    obtain ⟨⟨⟨h1, h2⟩, h3⟩, h4⟩ := h
    subst h2
    unfold tgTup at ht
    split at ht <;> try (cases ht; done)
    · rename_i q; cases q
    · show PI X _ _ (iZip G.K _); rw [← C.hK]
      refine pi_zip (gl_ok C h1).1 C.zp (pa_cons (A.pe _ (by omega) sc X W _ C tk h3) (pa_cons (A.pe _ (by omega) sc X W _ C tk h4) pa_nil (star_one h4 _ _)) (star_one h3 _ _)) (star_one h3 _ _) ?_
      rw [star_one h4]
      rfl
    all_goals (rename_i q1 q2 q3 q4; first | exact absurd rfl q1 | exact absurd rfl q2 | exact absurd rfl q3 | exact absurd rfl q4 | contradiction)
  · cases h
theorem all_ok (T : Tab) (G : Gv) (k : Nat) (N : List Str) : ∀ n, All T G k N n
  | 0 => ⟨fun _ h => by omega, fun _ h => by omega, fun _ h => by omega, fun _ h => by omega, fun _ h => by omega, fun _ h => by omega, fun _ h => by omega⟩
  | n + 1 =>
    have A := all_ok T G k N n
    ⟨pe_step A, pt_step A, pw_step A, pa_step A, po_step A, pf_step A, pi_step A⟩
theorem pe_ok {sc : Scope} {X : Cx} {W : WX} {m : ME} {e : PySem.Expr} (C : CxOk T G k N sc X) (tk : Takes X W) (h : chkE T N sc m e = true) : PE X e (rdE G W m) := (all_ok T G k N _).pe m (Nat.lt_succ_self _) sc X W e C tk h
theorem pt_ok {sc : Scope} {X : Cx} {W : WX} {m : ME} {e : PySem.Expr} (C : CxOk T G k N sc X) (tk : Takes X W) (h : chkE T N sc m e = true) : PT X e (rdT G W m) := (all_ok T G k N _).pt m (Nat.lt_succ_self _) sc X W e C tk h
theorem pas_ok {sc : Scope} {X : Cx} {W : WX} {m : MEs} {e : List PySem.Expr} (C : CxOk T G k N sc X) (tk : Takes X W) (h : chkEs T N sc m e = true) : PA X e (rdEs G W m) := (all_ok T G k N _).pa m (Nat.lt_succ_self _) sc X W e C tk h
theorem pi_ok {sc : Scope} {X : Cx} {W : WX} {m : MEs} {q : IK} {tg e : PySem.Expr} (C : CxOk T G k N sc X) (tk : Takes X W) (ht : tgTup q tg = true) (h : chkI T N sc q m e = true) : PI X tg e (rdI G W q m) := (all_ok T G k N _).pi m (Nat.lt_succ_self _) q sc X W tg e C tk ht h
end
end MP
namespace MP
open PySem L2 PyProof.Rows PySem.Spec
def isStar : PySem.Expr → Bool | .Starred .. => true | _ => false
/-- the local names among the targets that stand on the first one's row -/
def swNames (sc : Scope) (ts : List PySem.Expr) : List Str :=
  ts.filterMap fun
    | .Name id pos => if sc.names.lookup id == some .local && pos.line == (ts.head?.map (·.pos.line)).getD 0 then some id else none
    | _ => none
def swIs (sc : Scope) (ts vs : List PySem.Expr) : Bool :=
  (ts.length == 2 || ts.length == 3) && vs.length == ts.length && !(vs.any isStar) && (swNames sc ts).length == ts.length && (swNames sc ts).eraseDups.length == (swNames sc ts).length && !(vs.all (foldedForSure 8)) && !(vs.all (constantsAlone 8))
def swNo (sc : Scope) (ts vs : List PySem.Expr) : Bool :=
  !(ts.length == 2 || ts.length == 3) || vs.length != ts.length || vs.any isStar || (swNames sc ts).length != ts.length || (swNames sc ts).eraseDups.length != (swNames sc ts).length || vs.all (foldedForSure 8)
theorem sw_yes {sc : Scope} {env : Env} {ts vs : List PySem.Expr} {k k2 : Nat} {p p2 : Pos} (he : env.scope = sc) (hb : env.blockKind = .function) (h : swIs sc ts vs = true) : swappedStores [.Tuple ts k p] (.Tuple vs k2 p2) env = pure (some (swNames sc ts)) := by
  subst he
  unfold swIs at h
  simp only [Bool.and_eq_true, Bool.not_eq_true'] at h
  obtain ⟨⟨⟨⟨⟨⟨h1, h2⟩, h3⟩, h4⟩, h5⟩, h6⟩, h7⟩ := h
  unfold swappedStores
  show (if (!(ts.length == 2 || ts.length == 3) || vs.length != ts.length || env.blockKind != .function) = true then pure none else if vs.any isStar = true then pure none
    else if ((swNames env.scope ts).length != ts.length || (swNames env.scope ts).eraseDups.length != (swNames env.scope ts).length) = true then pure none
    else if vs.all (foldedForSure 8) = true then pure none else if vs.all (constantsAlone 8) = true then (do unsupported "assign.tuple-of-constant-expressions:order-of-the-stores"; pure (some (swNames env.scope ts))) else pure (some (swNames env.scope ts)) : Sem (Option (List Str))) = _
  rw [if_neg (by rw [h1, hb]; simp [eq_of_beq h2]), if_neg (by rw [h3]; simp), if_neg (by simp [eq_of_beq h4, eq_of_beq h5]), if_neg (by rw [h6]; simp), if_neg (by rw [h7]; simp)]
theorem sw_no {sc : Scope} {env : Env} {ts vs : List PySem.Expr} {k k2 : Nat} {p p2 : Pos} (he : env.scope = sc) (h : swNo sc ts vs = true) : swappedStores [.Tuple ts k p] (.Tuple vs k2 p2) env = pure none := by
  subst he
  unfold swNo at h
  unfold swappedStores
  show (if (!(ts.length == 2 || ts.length == 3) || vs.length != ts.length || env.blockKind != .function) = true then pure none else if vs.any isStar = true then pure none
    else if ((swNames env.scope ts).length != ts.length || (swNames env.scope ts).eraseDups.length != (swNames env.scope ts).length) = true then pure none
    else if vs.all (foldedForSure 8) = true then pure none else if vs.all (constantsAlone 8) = true then (do unsupported "assign.tuple-of-constant-expressions:order-of-the-stores"; pure (some (swNames env.scope ts))) else pure (some (swNames env.scope ts)) : Sem (Option (List Str))) = _
  by_cases c1 : (!(ts.length == 2 || ts.length == 3) || vs.length != ts.length || env.blockKind != .function) = true
  · rw [if_pos c1]
  · rw [if_neg c1]
    by_cases c2 : vs.any isStar = true
    · rw [if_pos c2]
    · rw [if_neg c2]
      by_cases c3 : ((swNames env.scope ts).length != ts.length || (swNames env.scope ts).eraseDups.length != (swNames env.scope ts).length) = true
      · rw [if_pos c3]
      · rw [if_neg c3]
        by_cases c4 : vs.all (foldedForSure 8) = true
        · rw [if_pos c4]
        · exfalso
          simp only [Bool.or_eq_true, not_or] at h c1 c3
          rcases h with ((((h | h) | h) | h) | h) | h
          · exact c1.1.1 h
          · exact c1.1.2 h
          · exact c2 h
          · exact c3.1 h
          · exact c3.2 h
          · exact c4 h
/-- a tuple of targets, the value written otherwise than as a tuple -/
def isTupE : PySem.Expr → Bool | .Tuple .. => true | _ => false
theorem sw_other {env : Env} {t v : PySem.Expr} (h : isTupE v = false) : swappedStores [t] v env = pure none := by
  cases v <;> first | (exact Bool.noConfusion h) | (cases t <;> rfl)
theorem sw_name {env : Env} {x : Str} {p : Pos} {v : PySem.Expr} : swappedStores [.Name x p] v env = pure none := by
  cases v <;> rfl
theorem sw_sub {env : Env} {a i : PySem.Expr} {p : Pos} {v : PySem.Expr} : swappedStores [.Subscript a i p] v env = pure none := by
  cases v <;> rfl
def isComp : PySem.Expr → Bool | .ListComp .. => true | .SetComp .. => true | .DictComp .. => true | _ => false
theorem swaps_no {env : Env} {v : PySem.Expr} {t : Option PySem.Expr} {l : Nat} (h : isComp v = false) : swapsWith v t l env = pure false := by
  cases v <;> first | rfl | cases h
theorem swaps_sub {env : Env} {v a i : PySem.Expr} {p : Pos} {l : Nat} : swapsWith v (some (.Subscript a i p)) l env = pure false := by
  cases v <;> rfl
theorem swaps_tup {env : Env} {v : PySem.Expr} {ts : List PySem.Expr} {k : Nat} {p : Pos} {l : Nat} : swapsWith v (some (.Tuple ts k p)) l env = pure false := by
  cases v <;> rfl
theorem sole_tup {env : Env} {v : PySem.Expr} {ts : List PySem.Expr} {k : Nat} {p : Pos} {l : Nat} : swapsWithSole [.Tuple ts k p] v l env = pure false := by
  cases v <;> rfl
theorem sole_no {env : Env} {v t : PySem.Expr} {l : Nat} (h : isComp v = false) : swapsWithSole [t] v l env = pure false := by
  cases v <;> first | rfl | cases h
end MP
namespace MP
open PySem L2 PyProof.Rows PySem.Spec
/-! ## statements -/
inductive MG where | nm (i : Nat) | sub (a i : ME)
mutual
inductive MS where
  | asg (g : MG) (e : ME) | asgT (gs : List MG) (e : ME) | par (is : List Nat) (es : MEs) | aug (i : Nat) (o : Op2) (e : ME)
  | expr (e : ME) | ret (e : ME) | retN | pass | brk | cont
  | ife (c : ME) (a b : MSs) | fors (tg : MT) (k : IK) (src : MEs) (body : MSs) | whl (c : ME) (body : MSs)
inductive MSs where | nil | cons (s : MS) (r : MSs)
end
def Op2.inp : Op2 → Option Operator | .add => some .Add | .sub => some .Sub | .mul => some .Mult | _ => none
def lcOk (N : List Str) (sc : Scope) (i : Nat) (x : Str) : Bool := decide (N[i]? = some x) && (match sc.names.lookup x with | some .local => true | some .cell => true | _ => false)
def chkG (T : Tab) (N : List Str) (sc : Scope) : MG → PySem.Expr → Bool
  | .nm i, .Name x _ => lcOk N sc i x
  | .sub a i, .Subscript l r _ => chkE T N sc a l && chkE T N sc i r
  | _, _ => false
def chkGs (T : Tab) (N : List Str) (sc : Scope) : List MG → List PySem.Expr → Bool
  | [], [] => true
  | g :: gs, e :: es => chkG T N sc g e && chkGs T N sc gs es
  | _, _ => false
def parOk (N : List Str) (sc : Scope) : List Nat → List PySem.Expr → Bool
  | [], [] => true
  | i :: is, .Name x _ :: es => decide (N[i]? = some x) && decide (sc.names.lookup x = some .local) && decide (i ∉ is) && parOk N sc is es
  | _, _ => false
mutual
def chkS (T : Tab) (N : List Str) (sc : Scope) : MS → PySem.Stmt → Bool
  | .asg (.nm i) (.comp m elt tg k src cond own), .Assign [.Name x _] v _ => lcOk N sc i x && chkE T N sc (.comp m elt tg k src cond own) v
  | .asg g e, .Assign [t] v _ => chkG T N sc g t && chkE T N sc e v && !isComp v && !isTupE t
  | .asgT gs e, .Assign [.Tuple ts _ _] v _ => chkGs T N sc gs ts && chkE T N sc e v && (match v with | .Tuple vs _ _ => swNo sc ts vs | _ => true)
  | .par is es, .Assign [.Tuple ts _ _] (.Tuple vs _ _) _ => parOk N sc is ts && chkEs T N sc es vs && swIs sc ts vs
  | .aug i o e, .AugAssign (.Name x _) p v _ => lcOk N sc i x && decide (o.inp = some p) && chkE T N sc e v
  | .expr e, .Expr v _ => chkE T N sc e v && !isComp v
  | .ret e, .Return (some v) _ => chkE T N sc e v
  | .retN, .Return none _ => true
  | .pass, .Pass _ => true
  | .brk, .Break _ => true
  | .cont, .Continue _ => true
  | .ife c a b, .If t x y _ => chkE T N sc c t && chkSs T N sc a x && chkSs T N sc b y
  | .fors tg k src body, .For t i b [] _ => tgOk N sc tg t && tgTup k t && chkI T N sc k src i && !isSet i && chkSs T N sc body b
  | .whl c body, .While t b [] _ => chkE T N sc c t && chkSs T N sc body b
  | _, _ => false
def chkSs (T : Tab) (N : List Str) (sc : Scope) : MSs → List PySem.Stmt → Bool
  | .nil, [] => true
  | .cons s r, t :: ts => chkS T N sc s t && chkSs T N sc r ts
  | _, _ => false
end
/-! readings -/
def rSet : V → V → V → Hp → (Hp → Prop) → Prop := fun o i v H Q => rSetL o i v H Q ∨ ∃ a H', o = .ref a ∧ DPut H a i v H' ∧ Q H'
def rdG (G : Gv) (W : WX) : MG → TG
  | .nm i => gName i
  | .sub a i => gSub (rdE G W a) (rdE G W i) rSet
def rdGs (G : Gv) (W : WX) : List MG → TGs
  | [] => gNil
  | g :: r => gCons (rdG G W g) (rdGs G W r)
def rAug : Op2 → TIp
  | .add => ipI fun i j => i + j
  | .sub => ipI fun i j => i - j
  | .mul => fun x y H Q => ∃ i j, x = .int i ∧ y = .int j ∧ CMulX i j ∧ Q (.int (i * j)) H
  | _ => fun _ _ _ _ => False
def tParN : List Nat → TA → TS
  | [i, j], ta => tPar i j ta
  | [i, j, l], ta => tPar3 i j l ta
  | _, _ => fun _ _ _ => False
mutual
def rdS (G : Gv) (W : WX) : MS → TS
  | .asg g e => tAsg (rdE G W e) (rdG G W g)
  | .asgT gs e => tAsg (rdE G W e) (gTup G.K gs.length (rdGs G W gs))
  | .par is es => tParN is (rdEs G W es)
  | .aug i o e => tAug i (rdE G W e) (rAug o)
  | .expr e => tDrop (rdE G W e)
  | .ret e => tRet (rdE G W e)
  | .retN => tRetN
  | .pass => tNext
  | .brk => tBreak
  | .cont => tCont
  | .ife c a b => tIfS (rdT G W c) (rdSs G W a) (rdSs G W b)
  | .fors tg k src body => tFor (rdI G W k src) (rdTg G.K tg) (rdSs G W body)
  | .whl c body => tWhile (rdT G W c) (rdSs G W body)
def rdSs (G : Gv) (W : WX) : MSs → TS
  | .nil => tNext
  | .cons s r => tSeq (rdS G W s) (rdSs G W r)
end
structure SxOk (T : Tab) (G : Gv) (k : Nat) (N : List Str) (sc : Scope) (X : Cx) : Prop extends CxOk T G k N sc X where
  fnA : ∀ x, X.fn x = true
  hp : PassesOwn (model X.prog X.w) X.A X.env X.xe
  hst : X.stack = X.env :: X.outer
  hfr : X.env.frame = some X.env.locals
  hbk : X.env.blockKind = .function
section
variable {T : Tab} {G : Gv} {k : Nat} {N : List Str} {sc : Scope} {X : Cx} {W : WX}
theorem lc_ok (C : SxOk T G k N sc X) {i : Nat} {x : Str} (h : lcOk N sc i x = true) : X.N.Nodup ∧ X.N[i]? = some x ∧ L2.Loc X.env.scope x ∧ (X.fn x = true ∨ X.env.scope.names.lookup x = some .local) := by
  unfold lcOk at h
  rw [Bool.and_eq_true] at h
  have h1 := of_decide_eq_true h.1
  have h2 := h.2
  refine ⟨by rw [C.hN]; exact C.nd, by rw [C.hN]; exact h1, ?_, .inl (C.fnA _)⟩
  unfold L2.Loc
  rw [C.hsc]
  split at h2
  · exact .inl (by assumption)
  · exact .inr (by assumption)
  · cases h2
theorem set_any (hu : X.A.units + 1 < cLine) : PSet X rSet := by
  intro pins s σ H o i v ov iv u Q I ro ri rv h
  rcases h with h | ⟨a, H', rfl, g, q⟩
  · exact set_list pins s σ H o i v ov iv u Q I ro ri rv h
  · cases ro
    exact d_setItem hu I g ri rv fun s' I' => ⟨H', I', q⟩
theorem pg_ok (C : SxOk T G k N sc X) (tk : Takes X W) {g : MG} {e : PySem.Expr} (h : chkG T N sc g e = true) : PG X e (rdG G W g) := by
  have hu := C.hu
  unfold chkG at h
  split at h
  · obtain ⟨h1, h2, h3, h4⟩ := lc_ok C h
    exact pg_name h1 h2 h3 h4
  · rw [Bool.and_eq_true] at h
    refine pg_sub (pe_ok C.toCxOk tk h.1) (pe_ok C.toCxOk tk h.2) (set_any (by omega)) (fun v => ?_)
    rename_i a i l r pos
    cases r <;> first | rfl | exact (inv_slice h.2).elim
  · cases h
theorem pgs_ok (C : SxOk T G k N sc X) (tk : Takes X W) : ∀ {gs : List MG} {es : List PySem.Expr}, chkGs T N sc gs es = true → PGs X es (rdGs G W gs) ∧ (assignEach es X.env).length = gs.length ∧ (assignEach es X.env).findIdx? (·.1) = none
  | [], [], _ => ⟨pgs_nil, rfl, rfl⟩
  | [], _ :: _, h => by simp [chkGs] at h
  | _ :: _, [], h => by simp [chkGs] at h
  | g :: gs, e :: es, h => by
    unfold chkGs at h
    rw [Bool.and_eq_true] at h
    obtain ⟨g1, g2, g3⟩ := pgs_ok C tk h.2
    have hs : assignEach (e :: es) X.env = (false, assign e X.env) :: assignEach es X.env := by
      have h1 := h.1
      cases e <;> first | rfl | (cases g <;> simp [chkG] at h1)
    refine ⟨pgs_cons (pg_ok C tk h.1) g1 (by rw [hs]; rfl), ?_, ?_⟩
    · rw [hs]
      show (assignEach es X.env).length + 1 = gs.length + 1
      rw [g2]
    · rw [hs, List.findIdx?_cons]
      simp [g3]
theorem iop_ok {o : Op2} {p : Operator} (h : o.inp = some p) : PIp X p (rAug o) := by
  cases o <;> cases h
  · exact ip_add
  · exact ip_sub
  · intro pins s σ H x y v u Q I r1 r2 h
    obtain ⟨i, j, rfl, rfl, c, q⟩ := h
    obtain ⟨t, rfl⟩ := r1
    obtain ⟨t', rfl⟩ := r2
    exact imul_int ⟨.int _, H, I.tok _, ⟨_, rfl⟩, q⟩ c.ok
end
end MP
namespace MP
open PySem L2 PyProof.Rows PySem.Spec
structure AllS (T : Tab) (G : Gv) (k : Nat) (N : List Str) (n : Nat) : Prop where
  ps : ∀ m : MS, sizeOf m < n → ∀ (sc : Scope) (X : Cx) (W : WX) (e : PySem.Stmt), SxOk T G k N sc X → Takes X W → chkS T N sc m e = true → PS X e (rdS G W m)
  pss : ∀ m : MSs, sizeOf m < n → ∀ (sc : Scope) (X : Cx) (W : WX) (e : List PySem.Stmt), SxOk T G k N sc X → Takes X W → chkSs T N sc m e = true → PSs X e (rdSs G W m)
section
variable {T : Tab} {G : Gv} {k : Nat} {N : List Str} {n : Nat}
theorem inv_par {sc : Scope} {i : Nat} {is : List Nat} {ts : List PySem.Expr} (hh : parOk N sc (i :: is) ts = true) : ∃ x q r, ts = .Name x q :: r ∧ N[i]? = some x ∧ sc.names.lookup x = some .local ∧ i ∉ is ∧ parOk N sc is r = true := by
  cases ts with
  | nil => simp [parOk] at hh
  | cons t r =>
    cases t <;> first | (simp [parOk] at hh; done) | skip
    simp only [parOk, Bool.and_eq_true, decide_eq_true_eq] at hh
    exact ⟨_, _, _, rfl, hh.1.1.1, hh.1.1.2, hh.1.2, hh.2⟩
theorem names2 {sc : Scope} {x y : Str} {p q : Pos} (h : (swNames sc [.Name x p, .Name y q]).length = [PySem.Expr.Name x p, .Name y q].length) : swNames sc [.Name x p, .Name y q] = [x, y] := by
  unfold swNames at h ⊢
  simp only [List.filterMap_cons, List.filterMap_nil, List.head?_cons, Option.map_some, Option.getD_some] at h ⊢
  split at h <;> split at h <;> simp_all
theorem names3 {sc : Scope} {x y z : Str} {p q r : Pos} (h : (swNames sc [.Name x p, .Name y q, .Name z r]).length = [PySem.Expr.Name x p, .Name y q, .Name z r].length) : swNames sc [.Name x p, .Name y q, .Name z r] = [x, y, z] := by
  unfold swNames at h ⊢
  simp only [List.filterMap_cons, List.filterMap_nil, List.head?_cons, Option.map_some, Option.getD_some] at h ⊢
  split at h <;> split at h <;> split at h <;> simp_all
theorem two_of {sc : Scope} {x y : PySem.Expr} {vs : List PySem.Expr} (h : swIs sc [x, y] vs = true) : ∃ a b, vs = [a, b] := by
  unfold swIs at h
  simp only [Bool.and_eq_true] at h
  have z := eq_of_beq h.1.1.1.1.1.2
  match vs, z with
  | [a, b], _ => exact ⟨a, b, rfl⟩
theorem three_of {sc : Scope} {x y z : PySem.Expr} {vs : List PySem.Expr} (h : swIs sc [x, y, z] vs = true) : ∃ a b c, vs = [a, b, c] := by
  unfold swIs at h
  simp only [Bool.and_eq_true] at h
  have z := eq_of_beq h.1.1.1.1.1.2
  match vs, z with
  | [a, b, c], _ => exact ⟨a, b, c, rfl⟩
theorem ps_asgLc {sc : Scope} {X : Cx} {W : WX} {i : Nat} {x : Str} {p pos : Pos} {m : Bool} {elt : ME} {tg : MT} {q : IK} {src : MEs} {cond : MO} {own : List (Str × Nat)} {v : PySem.Expr} (C : SxOk T G k N sc X) (tk : Takes X W) (hl : lcOk N sc i x = true)
    (h : chkE T N sc (.comp m elt tg q src cond own) v = true) : PS X (.Assign [.Name x p] v pos) (rdS G W (.asg (.nm i) (.comp m elt tg q src cond own))) := by
  obtain ⟨h1, h2, h3, h4⟩ := lc_ok C hl
  have hpe := pe_ok C.toCxOk tk h
  generalize hm : ME.comp m elt tg q src cond own = mm at h
  unfold chkE at h
  split at h <;> cases hm
  · rename_i e t it ifs scope lp
    by_cases hb : swapsWith (.ListComp e [⟨t, it, ifs, 0⟩] scope lp) (some (.Name x p)) pos.line X.env = pure false
    · exact ps_set h1 h2 h3 hpe hb h4
    · have hy : swapsWith (.ListComp e [⟨t, it, ifs, 0⟩] scope lp) (some (.Name x p)) pos.line X.env = pure true ∧ X.env.scope.names.lookup x = some .local := by
        have e0 : swapsWith (.ListComp e [⟨t, it, ifs, 0⟩] scope lp) (some (.Name x p)) pos.line X.env = pure (X.env.blockKind == .function && X.env.kindOf x == some .local && p.line == lp.line
          && !(scope.names.any fun (n, k) => n == x && (k == .local || k == .cell))) := rfl
        rw [e0] at hb ⊢
        cases hc : (X.env.blockKind == .function && X.env.kindOf x == some .local && p.line == lp.line && !(scope.names.any fun (n, k) => n == x && (k == .local || k == .cell))) with
        | false => exact absurd (by rw [hc]) hb
        | true =>
          refine ⟨rfl, ?_⟩
          simp only [Bool.and_eq_true] at hc
          exact eq_of_beq hc.1.1.2
      simp only [Bool.and_eq_true, Bool.not_eq_true'] at h
      obtain ⟨⟨⟨⟨⟨⟨⟨g1, g2⟩, g3⟩, gq⟩, g4⟩, g5⟩, g6⟩, g7⟩ := h
      have Cb := fun (s : Shared) (H : Hp) (Ca : Addr) (cl : List (Str × Addr)) (fp : List Addr) (scope : Scope) => CxOk.blk (s := s) (H := H) (scope := scope) (cl := cl) (Ca := Ca) (fp := fp) C.toCxOk
      refine ps_setLc C.calm h1 h2 hy.2 hy.1 (pi_ok C.toCxOk tk gq g4) (blkOk_by (by rw [C.hN, C.hsc]; exact g1)) (fun s H Ca cl fp => ?_) (fun s H Ca cl fp => ?_) (fun s H Ca cl fp => ?_) (no_fold g5)
      · exact tg_ok (Cb s H Ca cl fp _) g2 (.inr g3)
      · exact (all_ok T G k N _).pf _ (Nat.lt_succ_self _) _ _ _ _ (Cb s H Ca cl fp _) takes0 g6
      · exact pe_ok (Cb s H Ca cl fp _) takes0 g7
  · cases h
theorem ps_step (A : AllS T G k N n) (m : MS) (hs : sizeOf m < n + 1) (sc : Scope) (X : Cx) (W : WX) (e : PySem.Stmt) (C : SxOk T G k N sc X) (tk : Takes X W) (h : chkS T N sc m e = true) : PS X e (rdS G W m) := by
  unfold chkS at h
  split at h
  · rw [Bool.and_eq_true] at h
    exact ps_asgLc C tk h.1 h.2
  · rename_i g e t v pos _
    simp only [Bool.and_eq_true, Bool.not_eq_true'] at h
    obtain ⟨⟨⟨h1, h2⟩, h3⟩, h4⟩ := h
    have hw : swappedStores [t] v X.env = pure none := by
      unfold chkG at h1
      split at h1
      · exact sw_name
      · exact sw_sub
      · cases h1
    have h1a : (assignEach [t] X.env).map (·.2) = [assign t X.env] := by
      unfold chkG at h1
      split at h1
      · rfl
      · rfl
      · cases h1
    exact ps_asg (pe_ok C.toCxOk tk h2) (pg_ok C tk h1) (sole_no h3) hw h1a
  · rename_i gs e ts kk p v pos
    simp only [Bool.and_eq_true] at h
    obtain ⟨⟨h1, h2⟩, h3⟩ := h
    obtain ⟨g1, g2, g3⟩ := pgs_ok C tk h1
    have hw : swappedStores [.Tuple ts kk p] v X.env = pure none := by
      cases hv : isTupE v with
      | false => exact sw_other hv
      | true =>
        cases v <;> first | (exact Bool.noConfusion hv) | skip
        exact sw_no C.hsc h3
    refine ps_asg (pe_ok C.toCxOk tk h2) ?_ sole_tup hw rfl
    show PG X _ (gTup G.K _ _)
    rw [← C.hK]
    exact pg_tup C.calm g1 g2 g3
  · rename_i is es ts kk p vs kk2 p2 pos
    simp only [Bool.and_eq_true] at h
    obtain ⟨⟨h1, h2⟩, h3⟩ := h
    have ha := pas_ok C.toCxOk tk h2
    have hw := sw_yes (k := kk) (p := p) (k2 := kk2) (p2 := p2) C.hsc C.hbk h3
    have nd : X.N.Nodup := by rw [C.hN]; exact C.nd
    have key : ∀ {i : Nat} {is : List Nat} {ts : List PySem.Expr}, parOk N sc (i :: is) ts = true → ∃ x q r, ts = .Name x q :: r ∧ X.N[i]? = some x ∧ X.env.scope.names.lookup x = some .local ∧ i ∉ is ∧ parOk N sc is r = true := fun {i is ts} hh => by
      obtain ⟨x, q, r, rfl, g1, g2, g3, g4⟩ := inv_par hh
      exact ⟨x, q, r, rfl, by rw [C.hN]; exact g1, by rw [C.hsc]; exact g2, g3, g4⟩
    have nil_of : ∀ {ts : List PySem.Expr}, parOk N sc [] ts = true → ts = [] := fun {ts} hh => by
      cases ts with
      | nil => rfl
      | cons a r => simp [parOk] at hh
    unfold rdS
    cases is with
    | nil =>
      cases nil_of h1
      simp [swIs] at h3
    | cons i is =>
      obtain ⟨x, q, r, rfl, e1, e2, e3, h1⟩ := key h1
      cases is with
      | nil =>
        cases nil_of h1
        simp [swIs] at h3
      | cons j is =>
        obtain ⟨x2, q2, r2, rfl, f1, f2, f3, h1⟩ := key h1
        cases is with
        | nil =>
          cases nil_of h1
          have hn : swNames sc [.Name x q, .Name x2 q2] = [x, x2] := by
            have z := h3
            unfold swIs at z
            simp only [Bool.and_eq_true] at z
            exact names2 (eq_of_beq z.1.1.1.2)
          rw [hn] at hw
          obtain ⟨a, b, rfl⟩ : ∃ a b, vs = [a, b] := two_of h3
          exact ps_par C.calm nd e1 f1 (fun z => e3 (by rw [z]; exact List.mem_cons_self)) e2 f2 ha hw sole_tup
        | cons l is =>
          obtain ⟨x3, q3, r3, rfl, g1, g2, g3, h1⟩ := key h1
          cases is with
          | nil =>
            cases nil_of h1
            have hn : swNames sc [.Name x q, .Name x2 q2, .Name x3 q3] = [x, x2, x3] := by
              have z := h3
              unfold swIs at z
              simp only [Bool.and_eq_true] at z
              exact names3 (eq_of_beq z.1.1.1.2)
            rw [hn] at hw
            obtain ⟨a, b, c, rfl⟩ : ∃ a b c, vs = [a, b, c] := three_of h3
            exact ps_par3 C.calm nd e1 f1 g1 (fun z => e3 (by rw [z]; exact List.mem_cons_self)) (fun z => e3 (by rw [z]; simp)) (fun z => f3 (by rw [z]; exact List.mem_cons_self)) e2 f2 g2 ha hw sole_tup
          | cons l2 is =>
            obtain ⟨x4, q4, r4, rfl, _⟩ := key h1
            simp [swIs] at h3
  · simp only [Bool.and_eq_true, decide_eq_true_eq] at h
    obtain ⟨⟨h1, h2⟩, h3⟩ := h
    obtain ⟨g1, g2, g3, g4⟩ := lc_ok C h1
    exact ps_aug g1 g2 g3 (pe_ok C.toCxOk tk h3) (iop_ok h2) g4
  · simp only [Bool.and_eq_true, Bool.not_eq_true'] at h
    exact ps_expr (pe_ok C.toCxOk tk h.1) (swaps_no h.2)
  · exact ps_ret (pe_ok C.toCxOk tk h)
  · exact ps_retN
  · exact ps_pass
  · exact ps_break
  · exact ps_continue
  · simp only [Bool.and_eq_true] at h
    simp at hs
    exact ps_if (pt_ok C.toCxOk tk h.1.1) (A.pss _ (by omega) sc X W _ C tk h.1.2) (A.pss _ (by omega) sc X W _ C tk h.2)
  · simp only [Bool.and_eq_true, Bool.not_eq_true'] at h
    simp at hs
    obtain ⟨⟨⟨⟨h1, h2⟩, h3⟩, h4⟩, h5⟩ := h
    exact ps_for C.hp C.calm (pi_ok C.toCxOk tk h2 h3) (tg_ok C.toCxOk h1 (.inl C.fnA)) (A.pss _ (by omega) sc X W _ C tk h5) (no_fold h4)
  · simp only [Bool.and_eq_true] at h
    simp at hs
    exact ps_while C.hp (pt_ok C.toCxOk tk h.1) (A.pss _ (by omega) sc X W _ C tk h.2)
  · cases h
theorem pss_step (A : AllS T G k N n) (m : MSs) (hs : sizeOf m < n + 1) (sc : Scope) (X : Cx) (W : WX) (e : List PySem.Stmt) (C : SxOk T G k N sc X) (tk : Takes X W) (h : chkSs T N sc m e = true) : PSs X e (rdSs G W m) := by
  unfold chkSs at h
  split at h
  · exact pss_nil
  · rw [Bool.and_eq_true] at h
    simp at hs
    exact pss_cons (A.ps _ (by omega) sc X W _ C tk h.1) (A.pss _ (by omega) sc X W _ C tk h.2)
  · cases h
theorem allS_ok (T : Tab) (G : Gv) (k : Nat) (N : List Str) : ∀ n, AllS T G k N n
  | 0 => ⟨fun _ h => by omega, fun _ h => by omega⟩
  | n + 1 => ⟨ps_step (allS_ok T G k N n), pss_step (allS_ok T G k N n)⟩
theorem pss_ok {sc : Scope} {X : Cx} {W : WX} {m : MSs} {e : List PySem.Stmt} (C : SxOk T G k N sc X) (tk : Takes X W) (h : chkSs T N sc m e = true) : PSs X e (rdSs G W m) := (allS_ok T G k N _).pss m (Nat.lt_succ_self _) sc X W e C tk h
end
end MP
namespace MP
open PySem L2
/-! ## the reckoner -/
/-- a value: data that nobody changes, an object of the store, a built-in class -/
inductive W where | d (x : PyData) | ref (n : Nat) | ty (t : String) | exn (c : Nat) (w : W) | cls (j : Nat)
inductive XT where | own (j : Nat) | ty (s : String)
/-- the module's constants; the own errors: which there are, which take a value, what isinstance says of each -/
structure Gd where
  v : Nat → W
  ex : Nat → Bool
  hv : Nat → Bool
  sub : Nat → XT → Option Bool
inductive O where | lst (ws : List W) | tup (ws : List W) | dk (kvs : List (Key × W)) | dead
abbrev Sto := List O
abbrev Rho := List (Option W)
inductive R (α : Type) where | ok (a : α) (S : Sto) | exc (c : Nat) (v : W) (S : Sto) | bad
def R.bind {α β : Type} (r : R α) (f : α → Sto → R β) : R β := match r with | .ok a S => f a S | .exc c v S => .exc c v S | .bad => .bad
def lim : Nat := 1000000
def Cst.D : Cst → PyData | .non => .none | .bl b => .bool b | .int i => .int i | .str x => .str x
def allD : List W → Option (List PyData)
  | [] => some []
  | .d x :: r => match allD r with | some l => some (x :: l) | none => none
  | _ :: _ => none
def mkL (m : Bool) (ws : List W) (S : Sto) : R W :=
  if m then .ok (.ref S.length) (S ++ [.lst ws]) else match allD ws with | some ds => .ok (.d (.list ds)) S | none => .ok (.ref S.length) (S ++ [.lst ws])
def mkT (ws : List W) (S : Sto) : R W := match allD ws with | some ds => .ok (.d (.tuple ds)) S | none => .ok (.ref S.length) (S ++ [.tup ws])
def seqL (S : Sto) : W → Option (List W)
  | .d (.list ds) => some (ds.map .d)
  | .ref n => match S[n]? with | some (.lst ws) => some ws | _ => none
  | _ => none
def seqT (S : Sto) : W → Option (List W)
  | .d (.tuple ds) => some (ds.map .d)
  | .ref n => match S[n]? with | some (.tup ws) => some ws | _ => none
  | _ => none
def keyD : Key → PyData | .inl i => .int i | .inr x => .str x
def keyOf : PyData → Option Key | .int i => some (.inl i) | .str x => some (.inr x) | _ => none
def lookW {κ : Type} [DecidableEq κ] (kvs : List (κ × W)) (k : κ) : Option W := (kvs.find? fun kv => decide (kv.1 = k)).map (·.2)
def putW {κ : Type} [DecidableEq κ] (kvs : List (κ × W)) (k : κ) (v : W) : List (κ × W) :=
  if (kvs.any fun kv => decide (kv.1 = k)) = true then kvs.map (fun kv => if kv.1 = k then (kv.1, v) else kv) else kvs ++ [(k, v)]
def dkOf : List (PyData × PyData) → Option (List (Key × W))
  | [] => some []
  | (k, v) :: r => match keyOf k, dkOf r with | some q, some l => some ((q, .d v) :: l) | _, _ => none
/-- the data that a value is, read through the store -/
def rbL (f : W → Option PyData) : List W → Option (List PyData)
  | [] => some []
  | w :: r => match f w, rbL f r with | some x, some l => some (x :: l) | _, _ => none
def rbK (f : W → Option PyData) : List (Key × W) → Option (List (PyData × PyData))
  | [] => some []
  | (k, w) :: r => match f w, rbK f r with | some x, some l => some ((keyD k, x) :: l) | _, _ => none
def rb (lo : Nat) : Nat → Sto → W → Option PyData
  | _, _, .d x => some x
  | n + 1, S, .ref i => if i < lo then none else match S[i]? with
    | some (.lst ws) => (rbL (rb lo n S) ws).map .list
    | some (.tup ws) => (rbL (rb lo n S) ws).map .tuple
    | some (.dk kvs) => (rbK (rb lo n S) kvs).map .dict
    | _ => none
  | _, _, _ => none
def deep : Nat := 20
def tru (S : Sto) : W → Option Bool
  | .d .none => some false
  | .d (.bool b) => some b
  | .d (.int i) => some (i != 0)
  | .d (.str x) => if x.length ≤ lim then some ((x.length : Int) != 0) else none
  | .d (.list l) => some (!l.isEmpty)
  | .d (.tuple l) => some (!l.isEmpty)
  | .ref n => match S[n]? with | some (.lst ws) => some (!ws.isEmpty) | some (.tup ws) => some (!ws.isEmpty) | some (.dk kvs) => some (!kvs.isEmpty) | _ => none
  | _ => none
def addW (m : Bool) (x y : W) (S : Sto) : R W :=
  match x, y with
  | .d (.int i), .d (.int j) => .ok (.d (.int (i + j))) S
  | .d (.str a), .d (.str b) => if a.length + b.length ≤ lim then .ok (.d (.str (a ++ b))) S else .bad
  | .d (.tuple a), .d (.tuple b) => if a.length + b.length ≤ lim then .ok (.d (.tuple (a ++ b))) S else .bad
  | _, _ => match seqL S x, seqL S y with
    | some xs, some ys => if xs.length + ys.length ≤ lim then mkL m (xs ++ ys) S else .bad
    | _, _ => .bad
def mulOk (z : Str) (n : Int) : Bool := decide (0 ≤ n) && decide (n ≤ 1000) && decide (z.length ≤ 1000)
def mulW (m : Bool) (x y : W) (S : Sto) : R W :=
  match x, y with
  | .d (.int i), .d (.int j) => if (Builtin.Int.intBits i : Int) + (Builtin.Int.intBits j : Int) ≤ 134217728 then .ok (.d (.int (i * j))) S else .bad
  | .d (.str z), .d (.int n) => if mulOk z n then .ok (.d (.str (Txt.mul z n))) S else .bad
  | _, .d (.int k) => match seqL S x with
    | some xs => if 0 ≤ k ∧ k ≤ 1000000 ∧ xs.length * k.toNat ≤ lim then mkL m (List.replicate k.toNat xs).flatten S else .bad
    | none => .bad
  | _, _ => .bad
def int2 (f : Int → Int → R W) : W → W → R W
  | .d (.int i), .d (.int j) => f i j
  | _, _ => .bad
def dget (S : Sto) (d k : W) : Option (Option W) :=
  match d, k with
  | .ref n, .d k => match S[n]?, keyOf k with | some (.dk kvs), some q => some (lookW kvs q) | _, _ => none
  | .d (.dict ds), .d k => match dkOf ds, keyOf k with | some kvs, some q => some (lookW kvs q) | _, _ => none
  | _, _ => none
def isDict (S : Sto) : W → Bool
  | .d (.dict _) => true
  | .ref n => match S[n]? with | some (.dk _) => true | _ => false
  | _ => false
def flatD : PyData → Bool | .none => true | .bool _ => true | .int _ => true | .str _ => true | _ => false
def inW (neg : Bool) (x y : W) (S : Sto) : R W :=
  if isDict S y then (match dget S y x with | some o => .ok (.d (.bool (if neg then !o.isSome else o.isSome))) S | none => .bad)
  else match rb 0 deep S x, rb 0 deep S y with
    | some a, some (.list ds) => if SeqAt.shaped a && SeqAt.shaped (.list ds) then .ok (.d (.bool (if neg then !(ds.any fun z => PyData.eqv z a) else ds.any fun z => PyData.eqv z a))) S else .bad
    | some (.str c), some (.str z) => if c.cps.size = 1 then .ok (.d (.bool (if neg then !decide (c.cps.getD 0 0 ∈ z.cps.toList) else decide (c.cps.getD 0 0 ∈ z.cps.toList)))) S else .bad
    | _, _ => .bad
def eqW (neg : Bool) (x y : W) (S : Sto) : R W :=
  match rb 0 deep S x, rb 0 deep S y with
  | some a, some b => if SeqAt.shaped a && SeqAt.shaped b then .ok (.d (.bool (if neg then !PyData.eqv a b else PyData.eqv a b))) S else .bad
  | _, _ => .bad
def isW (neg : Bool) (x y : W) (S : Sto) : R W :=
  match x, y with
  | .d .none, .d .none => .ok (.d (.bool (!neg))) S
  | _, .d .none => .ok (.d (.bool neg)) S
  | .d (.bool a), .d (.bool b) => .ok (.d (.bool (if neg then !decide (a = b) else decide (a = b)))) S
  | _, _ => .bad
def op2 (o : Op2) (m : Bool) (x y : W) (S : Sto) : R W :=
  match o with
  | .add => addW m x y S
  | .sub => int2 (fun i j => .ok (.d (.int (i - j))) S) x y
  | .mul => mulW m x y S
  | .fdiv => int2 (fun i j => if 0 < j ∧ j.natAbs.log2 < 9000 then .ok (.d (.int (i / j))) S else .bad) x y
  | .mod => int2 (fun i j => if j ≠ 0 then .ok (.d (.int (i.fmod j))) S else .bad) x y
  | .pow => int2 (fun i j => if 0 ≤ j ∧ (Builtin.Int.intBits i : Int) * j ≤ 2 ^ 27 then .ok (.d (.int (i ^ j.toNat))) S else .bad) x y
  | .eq => eqW false x y S
  | .ne => eqW true x y S
  | .lt => int2 (fun i j => .ok (.d (.bool (decide (i < j)))) S) x y
  | .le => int2 (fun i j => .ok (.d (.bool (decide (i ≤ j)))) S) x y
  | .gt => int2 (fun i j => .ok (.d (.bool (decide (j < i)))) S) x y
  | .ge => int2 (fun i j => .ok (.d (.bool (decide (j ≤ i)))) S) x y
  | .inn => inW false x y S
  | .nin => inW true x y S
  | .is_ => isW false x y S
  | .isn => isW true x y S
def ixW (x y : W) (S : Sto) : R W :=
  if isDict S x then (match dget S x y with | some (some w) => .ok w S | _ => .bad)
  else match y with
    | .d (.int i) => match x with
      | .d (.str z) => if z.length ≤ lim then (match atI z.cps.toList i with | some c => .ok (.d (.str ⟨#[c]⟩)) S | none => .bad) else .bad
      | _ => match seqL S x with
        | some ws => (match atI ws i with | some w => .ok w S | none => .bad)
        | none => match seqT S x with
          | some ws => (match atI ws i with | some w => .ok w S | none => .bad)
          | none => .bad
    | _ => .bad
def cut {α : Type} (xs : List α) (lo hi : Option Int) : List α := (xs.drop (HT.sIx xs.length 0 lo)).take (HT.sIx xs.length xs.length hi - HT.sIx xs.length 0 lo)
def slW (x : W) (lo hi : Option Int) (S : Sto) : R W :=
  match x with
  | .d (.str z) => if z.length ≤ lim then .ok (.d (.str (cutS z lo hi))) S else .bad
  | _ => match seqL S x with
    | some ws => mkL false (cut ws lo hi) S
    | none => match x with
      | .d (.tuple ds) => .ok (.d (.tuple (cut ds lo hi))) S
      | _ => .bad
def typOf (S : Sto) : W → Option String
  | .d .none => some "NoneType" | .d (.bool _) => some "bool" | .d (.int _) => some "int" | .d (.str _) => some "str" | .d (.list _) => some "list" | .d (.tuple _) => some "tuple" | .d (.dict _) => some "dict"
  | .ref n => match S[n]? with | some (.lst _) => some "list" | some (.tup _) => some "tuple" | some (.dk _) => some "dict" | _ => none
  | _ => none
/-- isinstance over the built-in classes -/
def isiB (a b : String) : Bool := a == b || (a == "bool" && b == "int")
def lenW (S : Sto) : W → Option Nat
  | .d (.str z) => if z.length ≤ lim then some z.length else none
  | .d (.list l) => some l.length
  | .d (.tuple l) => some l.length
  | .d (.dict l) => match dkOf l with | some _ => some l.length | none => none
  | .ref n => match S[n]? with | some (.lst ws) => some ws.length | some (.tup ws) => some ws.length | some (.dk kvs) => some kvs.length | _ => none
  | _ => none
def intsW : List W → Option (List Int)
  | [] => some []
  | .d (.int i) :: r => match intsW r with | some l => some (i :: l) | none => none
  | _ => none
def biW (gd : Gd) (b : Bi) (m : Bool) (ws : List W) (S : Sto) : R W :=
  match b, ws with
  | .len, [x] => (match lenW S x with | some n => .ok (.d (.int n)) S | none => .bad)
  | .isi, [.exn c _, .ty t] => (match gd.sub c (.ty t) with | some k => .ok (.d (.bool k)) S | none => .bad)
  | .isi, [.exn c _, .cls j] => (match gd.sub c (.own j) with | some k => .ok (.d (.bool k)) S | none => .bad)
  | .isi, [x, .ty t] => (match typOf S x with | some a => if t ∈ tyNames then .ok (.d (.bool (isiB a t))) S else .bad | none => .bad)
  | .isi, [x, .cls j] => (match typOf S x with | some _ => if gd.ex j then .ok (.d (.bool false)) S else .bad | none => .bad)
  | .max2, [.d (.int i), .d (.int j)] => .ok (.d (.int (if j > i then j else i))) S
  | .sum, [x] => (match seqL S x with | some l => (match intsW l with | some ns => .ok (.d (.int ns.sum)) S | none => .bad) | none => .bad)
  | .int, [.d (.int i)] => .ok (.d (.int i)) S
  | .int, [.d (.bool b)] => .ok (.d (.int (if b then 1 else 0))) S
  | .list, [x] => (match seqL S x with | some l => mkL m l S | none => match seqT S x with | some l => mkL m l S | none => .bad)
  | .tuple, [x] => (match seqL S x with | some l => mkT l S | none => match x with | .d (.tuple l) => .ok (.d (.tuple l)) S | _ => .bad)
  | _, _ => .bad
def mtW (k : Mt) (x : W) (ws : List W) (S : Sto) : R W :=
  match k, x, ws with
  | .append, .ref n, [w] => (match S[n]? with | some (.lst l) => if l.length < lim then .ok (.d .none) (S.set n (.lst (l ++ [w]))) else .bad | _ => .bad)
  | .pop0, .ref n, [] => (match S[n]? with | some (.lst l) => (match l[l.length - 1]? with | some w => .ok w (S.set n (.lst l.dropLast)) | none => .bad) | _ => .bad)
  | .popAt, .ref n, [.d (.int i)] => (match S[n]? with | some (.lst l) => if 0 ≤ i ∧ i < l.length then (match l[i.toNat]? with | some w => .ok w (S.set n (.lst (l.eraseIdx i.toNat))) | none => .bad) else .bad | _ => .bad)
  | _, _, _ => .bad
def setW (x y v : W) (S : Sto) : R Unit :=
  match x with
  | .ref n => match S[n]? with
    | some (.lst l) => (match y with | .d (.int i) => (match ixN l.length i with | some j => .ok () (S.set n (.lst (l.set j v))) | none => .bad) | _ => .bad)
    | some (.dk kvs) => (match y with | .d k => (match keyOf k with | some q => if kvs.length < lim then .ok () (S.set n (.dk (putW kvs q v))) else .bad | none => .bad) | _ => .bad)
    | _ => .bad
  | _ => .bad
/-- one turn's item: a value, or a pair that is made for it -/
inductive IW where | one (w : W) | two (x y : W)
def setIs : List Nat → List W → Rho → Option Rho
  | [], [], ρ => some ρ
  | i :: is, w :: ws, ρ => setIs is ws (ρ.set i (some w))
  | _, _, _ => none
def bindT (S : Sto) (tg : MT) (it : IW) (ρ : Rho) : Option Rho :=
  match tg, it with
  | .nm i, .one w => some (ρ.set i (some w))
  | .tp is, .two x y => setIs is [x, y] ρ
  | .tp is, .one w => match seqT S w with | some ws => setIs is ws ρ | none => none
  | _, _ => none
def wipeW (ρ : Rho) : List Nat → Rho
  | [] => ρ
  | v :: vs => (wipeW ρ vs).set v none
inductive Src where | lst (w : W) | tup (w : W) | rng (lo : Int) (n : Nat) | enum (w : W) | zip (x y : W)
def inRng (n : Int) : Bool := decide (-4611686018427387904 ≤ n) && decide (n < 4611686018427387904)
/-- what is walked, and how many turns it has at most -/
def srcOf (k : IK) (ws : List W) (S : Sto) : Option (Src × Nat) :=
  match k, ws with
  | .list, [x] => (seqL S x).map fun l => (.lst x, l.length)
  | .tup, [x] => (seqT S x).map fun l => (.tup x, l.length)
  | .range1, [.d (.int n)] => if inRng n then some (.rng 0 n.toNat, n.toNat) else none
  | .range2, [.d (.int a), .d (.int b)] => if inRng a && inRng b then some (.rng a (b - a).toNat, (b - a).toNat) else none
  | .enum, [x] => (seqL S x).map fun l => (.enum x, l.length)
  | .zip, [x, y] => match seqL S x, seqL S y with | some l, some r => some (.zip x y, min l.length r.length) | _, _ => none
  | _, _ => none
def shI : IK → MEs → Bool
  | .list, .cons _ .nil => true
  | .tup, .cons _ .nil => true
  | .range1, .cons _ .nil => true
  | .range2, .cons _ (.cons _ .nil) => true
  | .enum, .cons _ .nil => true
  | .zip, .cons _ (.cons _ .nil) => true
  | _, _ => false
def itemAt (S : Sto) (i : Nat) : Src → Option (Option IW)
  | .lst w => (seqL S w).map fun l => l[i]?.map .one
  | .tup w => (seqT S w).map fun l => l[i]?.map .one
  | .rng lo n => some (if i < n then some (.one (.d (.int (lo + (i : Nat))))) else none)
  | .enum w => (seqL S w).map fun l => l[i]?.map fun x => .two (.d (.int (i : Nat))) x
  | .zip x y => match seqL S x, seqL S y with
    | some l, some r => some (match l[i]?, r[i]? with | some a, some b => some (.two a b) | _, _ => none)
    | _, _ => none
def consO (o : Option W) (l : List W) : List W := match o with | some w => w :: l | none => l
def compGo (src : Src) (f : IW → Sto → R (Option W)) : Nat → Nat → Sto → R (List W)
  | 0, _, _ => .bad
  | n + 1, i, S => match itemAt S i src with
    | some none => .ok [] S
    | some (some it) => (match f it S with
      | .ok o S1 => (match compGo src f n (i + 1) S1 with | .ok l S2 => .ok (consO o l) S2 | _ => .bad)
      | _ => .bad)
    | none => .bad
def tgIn (tg : MT) (own : List Nat) : Bool := match tg with | .nm i => decide (i ∈ own) | .tp is => is.all fun i => decide (i ∈ own)
section
def valW (gd : Gd) (x : W) (S : Sto) : R W := match x with | .exn c w => if gd.hv c && gd.ex c then .ok w S else .bad | _ => .bad
def neX (gd : Gd) (x y : W) (S : Sto) : R W := match x, y with | .exn c _, .exn c' _ => if c = c' ∧ gd.ex c = true then .ok (.d (.bool false)) S else .bad | _, _ => .bad
def isMk : ME → Bool | .mk _ _ _ => true | _ => false
variable (F : Nat → List W → Sto → R W) (gd : Gd)
mutual
def evE : ME → Rho → Sto → R W
  | .var i, ρ, S => match ρ[i]? with | some (some w) => .ok w S | _ => .bad
  | .cst c, _, S => .ok (.d c.D) S
  | .glb i, _, S => .ok (gd.v i) S
  | .ty t, _, S => .ok (.ty t) S
  | .op o m a b, ρ, S => (evE a ρ S).bind fun x S => (evE b ρ S).bind fun y S => op2 o m x y S
  | .neg a, ρ, S => (evE a ρ S).bind fun x S => match x with | .d (.int i) => .ok (.d (.int (-i))) S | _ => .bad
  | .chain o o2 a b c, ρ, S => (evE a ρ S).bind fun x S => (evE b ρ S).bind fun y S => (op2 o false x y S).bind fun k S => match k with
    | .d (.bool true) => (evE c ρ S).bind fun z S => op2 o2 false y z S
    | .d (.bool false) => .ok (.d (.bool false)) S
    | _ => .bad
  | .and a b, ρ, S => (evE a ρ S).bind fun x S => match tru S x with | some true => evE b ρ S | some false => .ok x S | none => .bad
  | .or a b, ρ, S => (evE a ρ S).bind fun x S => match tru S x with | some true => .ok x S | some false => evE b ρ S | none => .bad
  | .not a, ρ, S => (evE a ρ S).bind fun x S => match tru S x with | some k => .ok (.d (.bool (!k))) S | none => .bad
  | .ife c a b, ρ, S => (evT c ρ S).bind fun k S => if k then evE a ρ S else evE b ρ S
  | .tup es, ρ, S => (evEs es ρ S).bind fun ws S => if ws.length ≤ lim then mkT ws S else .bad
  | .lst m es, ρ, S => (evEs es ρ S).bind fun ws S => if ws.length ≤ lim then mkL m ws S else .bad
  | .ix a b, ρ, S => (evE a ρ S).bind fun x S => (evE b ρ S).bind fun y S => ixW x y S
  | .sl a lo hi, ρ, S => (evE a ρ S).bind fun x S => (evO lo ρ S).bind fun l S => (evO hi ρ S).bind fun h S => slW x l h S
  | .bi b m as, ρ, S => (evEs as ρ S).bind fun ws S => biW gd b m ws S
  | .mt k o as, ρ, S => (evE o ρ S).bind fun x S => if (seqL S x).isSome then (evEs as ρ S).bind fun ws S => mtW k x ws S else .bad
  | .bits a, ρ, S => (evE a ρ S).bind fun x S => match x with | .d (.int i) => .ok (.d (.int (Builtin.Int.intBits i : Nat))) S | _ => .bad
  | .call f as, ρ, S => (evEs as ρ S).bind fun ws S => F f ws S
  | .comp m elt tg k src cond own, ρ, S => if shI k src then (evEs src ρ S).bind fun ws S => match srcOf k ws S with
    | some (sr, n) => if n < lim && tgIn tg (own.map (·.2)) then
        (compGo sr (fun it S => match bindT S tg it (wipeW ρ (own.map (·.2))) with
          | some ρ' => (evIf cond ρ' S).bind fun b S => if b then (evE elt ρ' S).bind fun w S => .ok (some w) S else .ok none S
          | none => .bad) (n + 1) 0 S).bind fun l S => mkL m l S
      else .bad
    | none => .bad
    else .bad
  | .mk c .nil _, _, S => if gd.ex c then .ok (.exn c (.d .none)) S else .bad
  | .mk c (.cons a .nil) _, ρ, S => if gd.hv c && gd.ex c then (evE a ρ S).bind fun w S => .ok (.exn c w) S else .bad
  | .mk _ _ _, _, _ => .bad
  | .val a, ρ, S => (evE a ρ S).bind fun x S => valW gd x S
  | .eqX a b, ρ, S => if isMk b then (evE a ρ S).bind fun x S => (evE b ρ S).bind fun y S => neX gd x y S else .bad
def evEs : MEs → Rho → Sto → R (List W)
  | .nil, _, S => .ok [] S
  | .cons a r, ρ, S => (evE a ρ S).bind fun x S => (evEs r ρ S).bind fun l S => .ok (x :: l) S
def evO : MO → Rho → Sto → R (Option Int)
  | .none, _, S => .ok none S
  | .some a, ρ, S => (evE a ρ S).bind fun x S => match x with | .d (.int i) => .ok (some i) S | _ => .bad
def evIf : MO → Rho → Sto → R Bool
  | .none, _, S => .ok true S
  | .some a, ρ, S => evT a ρ S
def evT : ME → Rho → Sto → R Bool
  | .and a b, ρ, S => (evT a ρ S).bind fun k S => if k then evT b ρ S else .ok false S
  | .or a b, ρ, S => (evT a ρ S).bind fun k S => if k then .ok true S else evT b ρ S
  | .not a, ρ, S => (evT a ρ S).bind fun k S => .ok (!k) S
  | .op o m a b, ρ, S => (evE a ρ S).bind fun x S => (evE b ρ S).bind fun y S => (op2 o m x y S).bind fun w S =>
      if o.cmp.isSome then (match w with | .d (.bool k) => .ok k S | _ => .bad) else (match tru S w with | some k => .ok k S | none => .bad)
  | .chain o o2 a b c, ρ, S => (evE a ρ S).bind fun x S => (evE b ρ S).bind fun y S => (op2 o false x y S).bind fun k S => match k with
    | .d (.bool true) => (evE c ρ S).bind fun z S => (op2 o2 false y z S).bind fun w S => (match w with | .d (.bool k) => .ok k S | _ => .bad)
    | .d (.bool false) => .ok false S
    | _ => .bad
  | .var i, ρ, S => match ρ[i]? with | some (some w) => (match tru S w with | some k => .ok k S | none => .bad) | _ => .bad
  | .cst c, _, S => match tru S (.d c.D) with | some k => .ok k S | none => .bad
  | .glb i, _, S => match tru S (gd.v i) with | some k => .ok k S | none => .bad
  | .ix a b, ρ, S => (evE a ρ S).bind fun x S => (evE b ρ S).bind fun y S => (ixW x y S).bind fun w S => match tru S w with | some k => .ok k S | none => .bad
  | .bi b m as, ρ, S => (evEs as ρ S).bind fun ws S => (biW gd b m ws S).bind fun w S => match tru S w with | some k => .ok k S | none => .bad
  | .call f as, ρ, S => (evEs as ρ S).bind fun ws S => (F f ws S).bind fun w S => match tru S w with | some k => .ok k S | none => .bad
  | .val a, ρ, S => ((evE a ρ S).bind fun x S => valW gd x S).bind fun w S => match tru S w with | some k => .ok k S | none => .bad
  | _, _, _ => .bad
end
inductive RS where | next (ρ : Rho) (S : Sto) | brk (ρ : Rho) (S : Sto) | cont (ρ : Rho) (S : Sto) | ret (w : W) (S : Sto) | exc (c : Nat) (v : W) (ρ : Rho) (S : Sto) | bad
def R.toS {α : Type} (r : R α) (ρ : Rho) (f : α → Sto → RS) : RS := match r with | .ok a S => f a S | .exc c v S => .exc c v ρ S | .bad => .bad
def asgG (g : MG) (w : W) (ρ : Rho) (S : Sto) (k : Rho → Sto → RS) : RS :=
  match g with
  | .nm i => k (ρ.set i (some w)) S
  | .sub a i => (evE F gd a ρ S).toS ρ fun x S => (evE F gd i ρ S).toS ρ fun y S => (setW x y w S).toS ρ fun _ S => k ρ S
def asgGs : List MG → List W → Rho → Sto → (Rho → Sto → RS) → RS
  | [], [], ρ, S, k => k ρ S
  | g :: gs, w :: ws, ρ, S, k => asgG F gd g w ρ S fun ρ S => asgGs gs ws ρ S k
  | _, _, _, _, _ => .bad
def forGo (src : Src) (tg : MT) (f : Rho → Sto → RS) : Nat → Nat → Rho → Sto → RS
  | 0, _, _, _ => .bad
  | n + 1, i, ρ, S => match itemAt S i src with
    | some none => .next ρ S
    | some (some it) => (match bindT S tg it ρ with
      | some ρ1 => (match f ρ1 S with
        | .next ρ2 S2 => forGo src tg f n (i + 1) ρ2 S2
        | .cont ρ2 S2 => forGo src tg f n (i + 1) ρ2 S2
        | .brk ρ2 S2 => .next ρ2 S2
        | x => x)
      | none => .bad)
    | none => .bad
def whlGo (c : Rho → Sto → R Bool) (f : Rho → Sto → RS) : Nat → Rho → Sto → RS
  | 0, _, _ => .bad
  | n + 1, ρ, S => (c ρ S).toS ρ fun b S => if b then (match f ρ S with
      | .next ρ2 S2 => whlGo c f n ρ2 S2
      | .cont ρ2 S2 => whlGo c f n ρ2 S2
      | .brk ρ2 S2 => .next ρ2 S2
      | x => x) else .next ρ S
variable (wf : Nat)
mutual
def exS : MS → Rho → Sto → RS
  | .asg g e, ρ, S => (evE F gd e ρ S).toS ρ fun w S => asgG F gd g w ρ S .next
  | .asgT gs e, ρ, S => (evE F gd e ρ S).toS ρ fun w S => match seqT S w with | some ws => if ws.length = gs.length then asgGs F gd gs ws ρ S .next else .bad | none => .bad
  | .par is es, ρ, S => if is.length = 2 ∨ is.length = 3 then (evEs F gd es ρ S).toS ρ fun ws S => match setIs is ws ρ with | some ρ' => .next ρ' S | none => .bad else .bad
  | .aug i o e, ρ, S => if o.inp.isSome then (match ρ[i]? with
    | some (some (.d (.int a))) => (evE F gd e ρ S).toS ρ fun y S => (match y with
      | .d (.int b) => (match o with
        | .add => .next (ρ.set i (some (.d (.int (a + b))))) S
        | .sub => .next (ρ.set i (some (.d (.int (a - b))))) S
        | .mul => if (Builtin.Int.intBits a : Int) + (Builtin.Int.intBits b : Int) ≤ 134217728 then .next (ρ.set i (some (.d (.int (a * b))))) S else .bad
        | _ => .bad)
      | _ => .bad)
    | _ => .bad) else .bad
  | .expr e, ρ, S => (evE F gd e ρ S).toS ρ fun _ S => .next ρ S
  | .ret e, ρ, S => (evE F gd e ρ S).toS ρ fun w S => .ret w S
  | .retN, _, S => .ret (.d .none) S
  | .pass, ρ, S => .next ρ S
  | .brk, ρ, S => .brk ρ S
  | .cont, ρ, S => .cont ρ S
  | .ife c a b, ρ, S => (evT F gd c ρ S).toS ρ fun k S => if k then exSs a ρ S else exSs b ρ S
  | .fors tg k src body, ρ, S => if shI k src then (evEs F gd src ρ S).toS ρ fun ws S => match srcOf k ws S with
    | some (sr, n) => forGo sr tg (fun ρ S => exSs body ρ S) (n + 1) 0 ρ S
    | none => .bad
    else .bad
  | .whl c body, ρ, S => whlGo (fun ρ S => evT F gd c ρ S) (fun ρ S => exSs body ρ S) wf ρ S
def exSs : MSs → Rho → Sto → RS
  | .nil, ρ, S => .next ρ S
  | .cons s r, ρ, S => match exS s ρ S with
    | .next ρ S => exSs r ρ S
    | x => x
end
end
/-- a function: how many parameters, how many names, its body; whether its lists are handed out as they are -/
structure Fn where
  np : Nat
  nn : Nat
  body : MSs
  raw : Bool
def closedW (n : Nat) : W → Bool | .d _ => true | .ref m => decide (m < n) | .ty _ => true | .cls _ => true | .exn _ w => closedW n w
def closedO (n : Nat) : O → Bool | .lst ws => ws.all (closedW n) | .tup ws => ws.all (closedW n) | .dk kvs => kvs.all fun p => closedW n p.2 | .dead => true
/-- a value handed out: what was made within stands as data -/
def frzW (n₀ : Nat) (S : Sto) : W → Option W
  | .ref n => if n < n₀ then some (.ref n) else (rb n₀ deep S (.ref n)).map .d
  | .exn c w => (frzW n₀ S w).map (.exn c)
  | w => some w
def leaveW (raw : Bool) (n₀ : Nat) (w : W) (S : Sto) : R W :=
  if raw then .ok w S else if (S.take n₀).all (closedO n₀) then (match frzW n₀ S w with | some x => .ok x (S.take n₀) | none => .bad) else .bad
def runF (fs : List Fn) (gd : Gd) (wf : Nat) : Nat → Nat → List W → Sto → R W
  | 0, _, _, _ => .bad
  | n + 1, f, ws, S => match fs[f]? with
    | none => .bad
    | some d => if ws.length = d.np then (match exSs (runF fs gd wf n) gd wf d.body (ws.map some ++ List.replicate (d.nn - ws.length) none) S with
      | .ret w S' => leaveW d.raw S.length w S'
      | .next _ S' => leaveW false S.length (.d .none) S'
      | .exc c v _ S' => (match leaveW false S.length v S' with | .ok w S2 => .exc c w S2 | _ => .bad)
      | _ => .bad) else .bad
end MP
namespace MP
open PySem L2 PyProof.Rows PySem.Spec
/-! ## pairs of lists -/
section
variable {α β γ : Type} {F G : α → β → Prop}
theorem pget : ∀ {xs : List α} {ys : List β} {i : Nat} {x : α}, Paired F xs ys → xs[i]? = some x → ∃ y, ys[i]? = some y ∧ F x y
  | _, _, _, _, .nil, e => by simp at e
  | _, _, 0, _, .cons r _, e => by simp at e; subst e; exact ⟨_, rfl, r⟩
  | _, _, i + 1, x, .cons _ t, e => by
    obtain ⟨y, h1, h2⟩ := pget (i := i) (x := x) t (by simpa using e)
    exact ⟨y, by simpa using h1, h2⟩
theorem papp : ∀ {xs xs' : List α} {ys ys' : List β}, Paired F xs ys → Paired F xs' ys' → Paired F (xs ++ xs') (ys ++ ys')
  | _, _, _, _, .nil, s => s
  | _, _, _, _, .cons r t, s => .cons r (papp t s)
theorem pset {x : α} {y : β} (r : F x y) : ∀ {xs : List α} {ys : List β} (i : Nat), Paired F xs ys → Paired F (xs.set i x) (ys.set i y)
  | _, _, _, .nil => .nil
  | _, _, 0, .cons _ t => .cons r t
  | _, _, i + 1, .cons q t => .cons q (pset r i t)
theorem ptake : ∀ {xs : List α} {ys : List β} (n : Nat), Paired F xs ys → Paired F (xs.take n) (ys.take n)
  | _, _, 0, _ => .nil
  | _, _, _ + 1, .nil => .nil
  | _, _, n + 1, .cons r t => .cons r (ptake n t)
theorem pdrop : ∀ {xs : List α} {ys : List β} (n : Nat), Paired F xs ys → Paired F (xs.drop n) (ys.drop n)
  | _, _, 0, r => r
  | _, _, _ + 1, .nil => .nil
  | _, _, n + 1, .cons _ t => pdrop n t
theorem perase : ∀ {xs : List α} {ys : List β} (n : Nat), Paired F xs ys → Paired F (xs.eraseIdx n) (ys.eraseIdx n)
  | _, _, _, .nil => .nil
  | _, _, 0, .cons _ t => t
  | _, _, n + 1, .cons r t => .cons r (perase n t)
theorem prep : ∀ {xs : List α} {ys : List β} (n : Nat), Paired F xs ys → Paired F (List.replicate n xs).flatten (List.replicate n ys).flatten
  | _, _, 0, _ => .nil
  | _, _, n + 1, r => by
    rw [List.replicate_succ, List.replicate_succ, List.flatten_cons, List.flatten_cons]
    exact papp r (prep n r)
theorem pdropLast {xs : List α} {ys : List β} (r : Paired F xs ys) : Paired F xs.dropLast ys.dropLast := by
  rw [List.dropLast_eq_take, List.dropLast_eq_take, r.length]
  exact ptake _ r
end

/-! ## data in the heap -/
mutual
inductive At (K : PySem.W.Frag) (F : Hp) : V → PyData → Prop
  | non : At K F .non .none
  | bl (b : Bool) : At K F (.bl b) (.bool b)
  | int (i : Int) : At K F (.int i) (.int i)
  | str (x : Str) : At K F (.str x) (.str x)
  | lst {a : Addr} {xs : List V} {ds : List PyData} : SqL K F a xs → xs.length ≤ sizeLine → AtL K F xs ds → At K F (.ref a) (.list ds)
  | tup {a : Addr} {xs : List V} {ds : List PyData} : SqT K F a xs → xs.length ≤ sizeLine → AtL K F xs ds → At K F (.ref a) (.tuple ds)
  | dk {a : Addr} {kv : List (Key × V)} {ds : List (PyData × PyData)} : Rd F a (.dK kv) → AtK K F kv ds → At K F (.ref a) (.dict ds)
inductive AtL (K : PySem.W.Frag) (F : Hp) : List V → List PyData → Prop
  | nil : AtL K F [] []
  | cons {v : V} {vs : List V} {d : PyData} {ds : List PyData} : At K F v d → AtL K F vs ds → AtL K F (v :: vs) (d :: ds)
inductive AtK (K : PySem.W.Frag) (F : Hp) : List (Key × V) → List (PyData × PyData) → Prop
  | nil : AtK K F [] []
  | cons {k : Key} {v : V} {vs : List (Key × V)} {d : PyData} {ds : List (PyData × PyData)} : At K F v d → AtK K F vs ds → AtK K F ((k, v) :: vs) ((keyD k, d) :: ds)
end
def Ex (H H' : Hp) : Prop := ∀ a o, H a = some o → H' a = some o
theorem Ex.rd {H H' : Hp} {a : Addr} {u : HO} (e : Ex H H') (h : Rd H a u) : Rd H' a u := h.elim (fun h => .inl (e a _ h)) fun ⟨o, h⟩ => .inr ⟨o, e a _ h⟩
theorem Ex.l {K : PySem.W.Frag} {H H' : Hp} {a : Addr} {xs : List V} (e : Ex H H') (h : SqL K H a xs) : SqL K H' a xs := h.elim (fun h => .inl (e.rd h)) .inr
theorem Ex.t {K : PySem.W.Frag} {H H' : Hp} {a : Addr} {xs : List V} (e : Ex H H') (h : SqT K H a xs) : SqT K H' a xs := h.elim (fun h => .inl (e.rd h)) .inr
theorem Ex.new {H : Hp} {p : Addr} {o : HO} (h : H p = none) : Ex H (upd H p o) := fun a u e => by
  rw [upd_ne (ne_of_none e h)]
  exact e
section
variable {K : PySem.W.Frag} {F F' : Hp}
mutual
theorem At.mono (e : Ex F F') : ∀ {v : V} (d : PyData), At K F v d → At K F' v d
  | _, .none, .non => .non
  | _, .bool _, .bl b => .bl b
  | _, .int _, .int i => .int i
  | _, .str _, .str x => .str x
  | _, .list ds, .lst h z r => .lst (e.l h) z (AtL.mono e ds r)
  | _, .tuple ds, .tup h z r => .tup (e.t h) z (AtL.mono e ds r)
  | _, .dict ds, .dk h r => .dk (e.rd h) (AtK.mono e ds r)
theorem AtL.mono (e : Ex F F') : ∀ {v : List V} (d : List PyData), AtL K F v d → AtL K F' v d
  | _, [], .nil => .nil
  | _, d :: ds, .cons h t => .cons (At.mono e d h) (AtL.mono e ds t)
theorem AtK.mono (e : Ex F F') : ∀ {v : List (Key × V)} (d : List (PyData × PyData)), AtK K F v d → AtK K F' v d
  | _, [], .nil => .nil
  | _, (_, d) :: ds, .cons h t => .cons (At.mono e d h) (AtK.mono e ds t)
end
theorem AtL.length : ∀ {vs : List V} {ds : List PyData}, AtL K F vs ds → vs.length = ds.length
  | _, [], .nil => rfl
  | _, _ :: _, .cons _ t => by rw [List.length_cons, List.length_cons, AtL.length t]
mutual
theorem At.dp : ∀ {v : V} (d : PyData), At K F v d → d.canLay0 = true → Dp K F v d
  | _, .none, .non, _ => .non
  | _, .bool _, .bl b, _ => .bl b
  | _, .int _, .int i, _ => .int i
  | _, .str _, .str x, _ => .str x
  | _, .list ds, .lst h z r, c => .lst h (AtL.dp ds r (by simpa [PyData.canLay0] using c))
  | _, .tuple ds, .tup h z r, c => .tup h (AtL.dp ds r (by simpa [PyData.canLay0] using c))
  | _, .dict ds, _, c => by simp [PyData.canLay0] at c
theorem AtL.dp : ∀ {v : List V} (d : List PyData), AtL K F v d → PyData.canLayAll0 d = true → DpAll K F v d
  | _, [], .nil, _ => .nil
  | _, d :: ds, .cons h t, c => by
    simp only [PyData.canLayAll0, Bool.and_eq_true] at c
    exact .cons (At.dp d h c.1) (AtL.dp ds t c.2)
end
end

/-! ## the store in the heap -/
def WR (G : Gb) (ι : List Addr) (F : Hp) : W → V → Prop
  | .d x => fun v => At G.K F v x
  | .ref n => fun v => ∃ a, ι[n]? = some a ∧ v = .ref a
  | .ty t => fun v => v = .ty t
  | .cls j => fun v => v = .ref (G.cl j)
  | .exn c w => fun v => ∃ a, v = .ref a ∧ if G.hv c = true then ∃ d x, F a = some (exo a (G.cl c) (some d)) ∧ F d = some (exd d [("value", x)]) ∧ WR G ι F w x else F a = some (exo a (G.cl c) none)
abbrev WRs (G : Gb) (ι : List Addr) (F : Hp) : List W → List V → Prop := Paired (WR G ι F)
def KR {κ : Type} (G : Gb) (ι : List Addr) (F : Hp) : List (κ × W) → List (κ × V) → Prop := Paired fun (p : κ × W) (q : κ × V) => p.1 = q.1 ∧ WR G ι F p.2 q.2
def OR (G : Gb) (ι : List Addr) (F H : Hp) (a : Addr) : O → Prop
  | .lst ws => F a = none ∧ ∃ xs, H a = some (.lst xs) ∧ xs.length ≤ sizeLine ∧ WRs G ι F ws xs
  | .tup ws => F a = none ∧ ∃ xs, H a = some (.tup xs) ∧ xs.length ≤ sizeLine ∧ WRs G ι F ws xs
  | .dk kvs => F a = none ∧ ∃ kv, H a = some (.dK kv) ∧ KR G ι F kvs kv
  | .dead => True
structure GoodS (G : Gb) (ι : List Addr) (F : Hp) (S : Sto) (H : Hp) : Prop where
  ex : Ex F H
  len : ι.length = S.length
  nd : ι.Nodup
  obj : ∀ (n : Nat) (o : O) (a : Addr), S[n]? = some o → ι[n]? = some a → OR G ι F H a o
  fr : ∀ a ∈ ι, H a ≠ none
structure Le (ι : List Addr) (F H : Hp) (ι' : List Addr) (F' H' : Hp) : Prop where
  pre : ι <+: ι'
  ex : Ex F F'
  dom : ∀ a, H a ≠ none → H' a ≠ none
  keep : ∀ a o, a ∉ ι → H a = some o → H' a = some o
  newF : ∀ a, a ∉ ι → F a = none → H a ≠ none → F' a = none
  newL : ∀ a ∈ ι', a ∉ ι → H a = none
section
variable {G : Gb} {ι ι' ι2 : List Addr} {F F' F2 H H' H2 : Hp} {S S' : Sto}
theorem Le.refl (ι : List Addr) (F H : Hp) : Le ι F H ι F H := ⟨List.prefix_refl _, fun _ _ h => h, fun _ h => h, fun _ _ _ h => h, fun _ _ h _ => h, fun _ h n => absurd h n⟩
theorem Le.trans (a : Le ι F H ι' F' H') (b : Le ι' F' H' ι2 F2 H2) : Le ι F H ι2 F2 H2 where
  pre := a.pre.trans b.pre
  ex := fun x o h => b.ex x o (a.ex x o h)
  dom := fun x h => b.dom x (a.dom x h)
  keep := fun x o h e => b.keep x o (fun m => by rw [a.newL x m h] at e; cases e) (a.keep x o h e)
  newF := fun x h e n => b.newF x (fun m => n (a.newL x m h)) (a.newF x h e n) (a.dom x n)
  newL := fun x h n => by
    by_cases m : x ∈ ι'
    · exact a.newL x m n
    · have z := b.newL x h m
      cases q : H x with
      | none => rfl
      | some o => exact absurd z (a.dom x (by rw [q]; exact fun z => by cases z))
theorem pre_get {α : Type} {l l' : List α} {n : Nat} {a : α} (p : l <+: l') (h : l[n]? = some a) : l'[n]? = some a := by
  obtain ⟨r, rfl⟩ := p
  rw [List.getElem?_append_left (List.getElem?_eq_some_iff.mp h).1]
  exact h
theorem WR.up (p : ι <+: ι') (e : Ex F F') : ∀ {w : W} {v : V}, WR G ι F w v → WR G ι' F' w v
  | .d x, _, h => At.mono e x h
  | .ref n, _, ⟨a, h1, h2⟩ => ⟨a, pre_get p h1, h2⟩
  | .ty t, _, h => h
  | .cls j, _, h => h
  | .exn c w, v, ⟨a, hv, h⟩ => by
    refine ⟨a, hv, ?_⟩
    by_cases hc : G.hv c = true
    · rw [if_pos hc] at h ⊢
      obtain ⟨d, x, h1, h2, h3⟩ := h
      exact ⟨d, x, e _ _ h1, e _ _ h2, WR.up p e h3⟩
    · rw [if_neg hc] at h ⊢
      exact e _ _ h
theorem WR.le (l : Le ι F H ι' F' H') {w : W} {v : V} (h : WR G ι F w v) : WR G ι' F' w v := h.up l.pre l.ex
theorem WRs.up (p : ι <+: ι') (e : Ex F F') {w : List W} {v : List V} (h : WRs G ι F w v) : WRs G ι' F' w v := Paired.mapP h fun _ _ r => r.up p e
theorem KR.up {κ : Type} (p : ι <+: ι') (e : Ex F F') {w : List (κ × W)} {v : List (κ × V)} (h : KR G ι F w v) : KR G ι' F' w v := Paired.mapP h fun _ _ r => ⟨r.1, r.2.up p e⟩
/-- an object's description stays while its own cell does -/
theorem OR.up {a : Addr} {o : O} (p : ι <+: ι') (e : Ex F F') (hF : F a = none → F' a = none) (hH : ∀ u, H a = some u → H' a = some u) (h : OR G ι F H a o) : OR G ι' F' H' a o := by
  cases o with
  | lst ws => obtain ⟨f, xs, h1, h2, h3⟩ := h; exact ⟨hF f, xs, hH _ h1, h2, h3.up p e⟩
  | tup ws => obtain ⟨f, xs, h1, h2, h3⟩ := h; exact ⟨hF f, xs, hH _ h1, h2, h3.up p e⟩
  | dk kvs => obtain ⟨f, xs, h1, h2⟩ := h; exact ⟨hF f, xs, hH _ h1, h2.up p e⟩
  | dead => trivial
/-- data laid at p -/
theorem GoodS.data {p : Addr} {u : HO} (g : GoodS G ι F S H) (hp : H p = none) : GoodS G ι (upd F p u) S (upd H p u) ∧ Le ι F H ι (upd F p u) (upd H p u) := by
  have hF : F p = none := by
    cases q : F p with
    | none => rfl
    | some o => rw [g.ex p o q] at hp; cases hp
  have nm : ∀ a ∈ ι, a ≠ p := fun a ha z => g.fr a ha (by rw [z]; exact hp)
  have ex : Ex F (upd F p u) := Ex.new hF
  refine ⟨⟨fun a o h => ?_, g.len, g.nd, fun n o a h1 h2 => ?_, fun a ha => ?_⟩, ⟨List.prefix_refl _, ex, fun a h => ?_, fun a o _ h => ?_, fun a _ h n => ?_, fun a h n => absurd h n⟩⟩
  · by_cases z : a = p
    · subst z; rw [upd_same] at h; rw [upd_same]; exact h
    · rw [upd_ne z] at h; rw [upd_ne z]; exact g.ex a o h
  · have z := nm a (List.mem_of_getElem? h2)
    exact (g.obj n o a h1 h2).up (List.prefix_refl _) ex (fun h => by rw [upd_ne z]; exact h) (fun v h => by rw [upd_ne z]; exact h)
  · rw [upd_ne (nm a ha)]; exact g.fr a ha
  · by_cases z : a = p
    · subst z; rw [upd_same]; exact fun q => by cases q
    · rw [upd_ne z]; exact h
  · rw [upd_ne (ne_of_none h hp)]; exact h
  · rw [upd_ne (fun z => n (by rw [z]; exact hp))]; exact h
/-- a new object of the store at p -/
theorem GoodS.push {p : Addr} {u : HO} {o : O} (g : GoodS G ι F S H) (hp : H p = none) (ho : OR G (ι ++ [p]) F (upd H p u) p o) : GoodS G (ι ++ [p]) F (S ++ [o]) (upd H p u) ∧ Le ι F H (ι ++ [p]) F (upd H p u) := by
  have nm : ∀ a ∈ ι, a ≠ p := fun a ha z => g.fr a ha (by rw [z]; exact hp)
  have pre : ι <+: ι ++ [p] := List.prefix_append _ _
  refine ⟨⟨fun a o h => ?_, by simp [g.len], ?_, fun n o' a h1 h2 => ?_, fun a ha => ?_⟩, ⟨pre, fun _ _ h => h, fun a h => ?_, fun a o _ h => ?_, fun a _ h n => h, fun a h n => ?_⟩⟩
  · rw [upd_ne (ne_of_none (g.ex a o h) hp)]; exact g.ex a o h
  · rw [List.nodup_append]
    exact ⟨g.nd, by simp, fun a ha b hb => by simp at hb; subst hb; exact nm a ha⟩
  · by_cases hn : n < S.length
    · rw [List.getElem?_append_left hn] at h1
      rw [List.getElem?_append_left (by rw [g.len]; exact hn)] at h2
      have z := nm a (List.mem_of_getElem? h2)
      exact (g.obj n o' a h1 h2).up pre (fun _ _ h => h) id (fun v h => by rw [upd_ne z]; exact h)
    · rw [List.getElem?_append_right (by omega)] at h1
      rw [List.getElem?_append_right (by rw [g.len]; omega)] at h2
      have e : n - S.length = 0 := by
        have := (List.getElem?_eq_some_iff.mp h1).1
        simp at this; omega
      rw [e] at h1
      rw [g.len, e] at h2
      simp at h1 h2
      subst h1 h2
      exact ho
  · rcases List.mem_append.mp ha with h | h
    · rw [upd_ne (nm a h)]; exact g.fr a h
    · simp at h; subst h; rw [upd_same]; exact fun q => by cases q
  · by_cases z : a = p
    · subst z; rw [upd_same]; exact fun q => by cases q
    · rw [upd_ne z]; exact h
  · rw [upd_ne (ne_of_none h hp)]; exact h
  · rcases List.mem_append.mp h with h | h
    · exact absurd h n
    · simp at h; subst h; exact hp
/-- an object of the store is changed -/
theorem GoodS.write {n : Nat} {a : Addr} {u : HO} {o o0 : O} (g : GoodS G ι F S H) (h0 : S[n]? = some o0) (ha : ι[n]? = some a) (hf : F a = none) (ho : OR G ι F (upd H a u) a o) : GoodS G ι F (S.set n o) (upd H a u) ∧ Le ι F H ι F (upd H a u) := by
  refine ⟨⟨fun b v h => ?_, by simp [g.len], g.nd, fun m o' b h1 h2 => ?_, fun b hb => ?_⟩, ⟨List.prefix_refl _, fun _ _ h => h, fun b h => ?_, fun b v hb h => ?_, fun b _ h _ => h, fun b h n => absurd h n⟩⟩
  · rw [upd_ne (ne_of_none h hf)]; exact g.ex b v h
  · by_cases hm : m = n
    · subst hm
      rw [List.getElem?_set_self (List.getElem?_eq_some_iff.mp h0).1] at h1
      cases h1
      rw [ha] at h2; cases h2
      exact ho
    · rw [List.getElem?_set_ne (Ne.symm hm)] at h1
      have hb : b ≠ a := fun z => by
        subst z
        obtain ⟨l1, e1⟩ := List.getElem?_eq_some_iff.mp h2
        obtain ⟨l2, e2⟩ := List.getElem?_eq_some_iff.mp ha
        exact hm ((List.getElem_inj g.nd).mp (e1.trans e2.symm))
      exact (g.obj m o' b h1 h2).up (List.prefix_refl _) (fun _ _ h => h) id (fun v h => by rw [upd_ne hb]; exact h)
  · by_cases z : b = a
    · subst z; rw [upd_same]; exact fun q => by cases q
    · rw [upd_ne z]; exact g.fr b hb
  · by_cases z : b = a
    · subst z; rw [upd_same]; exact fun q => by cases q
    · rw [upd_ne z]; exact h
  · rw [upd_ne (fun z => hb (by rw [z]; exact List.mem_of_getElem? ha))]; exact h
end
end MP
namespace MP
open PySem L2 PyProof.Rows PySem.Spec
theorem lim_le : lim ≤ sizeLine := by decide
theorem lim_lt {n : Nat} (h : n ≤ lim) : n ≤ sizeLine := Nat.le_trans h lim_le
/-! ## what is wanted of a result -/
def ExcAt (G : Gb) (ι : List Addr) (F : Hp) (c : Nat) (w : W) (d : Option Addr) : Prop :=
  if G.hv c = true then ∃ dd x, d = some dd ∧ F dd = some (.xd [("value", x)]) ∧ WR G ι F w x else d = none
def Post {α β : Type} (G : Gb) (rel : List Addr → Hp → α → β → Prop) (E : XK) (ι : List Addr) (F H : Hp) (r : R α) (Q : β → Hp → Prop) : Prop :=
  match r with
  | .ok a S' => ∀ ι' F' H' v, Le ι F H ι' F' H' → GoodS G ι' F' S' H' → rel ι' F' a v → Q v H'
  | .exc c w S' => ∀ ι' F' H' d, Le ι F H ι' F' H' → GoodS G ι' F' S' H' → ExcAt G ι' F' c w d → E (.ref (G.cl c)) d H'
  | .bad => False
section
variable {α β γ δ : Type} {G : Gb} {rel : List Addr → Hp → α → β → Prop} {rel2 : List Addr → Hp → γ → δ → Prop} {E : XK} {ι ι1 : List Addr} {F H F1 H1 : Hp} {S : Sto}
theorem Post.le {r : R α} {Q : β → Hp → Prop} (l : Le ι F H ι1 F1 H1) (h : Post G rel E ι F H r Q) : Post G rel E ι1 F1 H1 r Q := by
  cases r with
  | ok a S' => exact fun ι' F' H' v l' g => h ι' F' H' v (l.trans l') g
  | exc c w S' => exact fun ι' F' H' d l' g => h ι' F' H' d (l.trans l') g
  | bad => exact h
theorem Post.bind {r : R α} {f : α → Sto → R γ} {Q : δ → Hp → Prop} {Q' : β → Hp → Prop} (h : Post G rel2 E ι F H (r.bind f) Q)
    (k : ∀ a S' ι' F' H' v, Le ι F H ι' F' H' → GoodS G ι' F' S' H' → rel ι' F' a v → r = .ok a S' → Post G rel2 E ι' F' H' (f a S') Q → Q' v H') : Post G rel E ι F H r Q' := by
  cases r with
  | ok a S' => exact fun ι' F' H' v l g q => k a S' ι' F' H' v l g q rfl (Post.le l h)
  | exc c w S' => exact h
  | bad => exact h
theorem Post.mono {r : R α} {Q Q' : β → Hp → Prop} (h : Post G rel E ι F H r Q)
    (k : ∀ a S' ι' F' H' v, Le ι F H ι' F' H' → GoodS G ι' F' S' H' → rel ι' F' a v → r = .ok a S' → Q v H' → Q' v H') : Post G rel E ι F H r Q' := by
  cases r with
  | ok a S' => exact fun ι' F' H' v l g q => k a S' ι' F' H' v l g q rfl (h ι' F' H' v l g q)
  | exc c w S' => exact h
  | bad => exact h
theorem Post.mono' {rel' : List Addr → Hp → α → β → Prop} {r : R α} {Q : β → Hp → Prop} (h : Post G rel E ι F H r Q) (k : ∀ a (S' : Sto) ι' F' H' v, Le ι F H ι' F' H' → GoodS G ι' F' S' H' → rel' ι' F' a v → rel ι' F' a v) : Post G rel' E ι F H r Q := by
  cases r with
  | ok a S' => exact fun ι' F' H' v l g q => h ι' F' H' v l g (k a S' ι' F' H' v l g q)
  | exc c w S' => exact h
  | bad => exact h
theorem Post.here {a : α} {Q : β → Hp → Prop} {v : β} (h : Post G rel E ι F H (.ok a S) Q) (g : GoodS G ι F S H) (q : rel ι F a v) : Q v H := h ι F H v (Le.refl ι F H) g q
end
abbrev RE (G : Gb) := fun (ι : List Addr) (F : Hp) (w : W) (v : V) => WR G ι F w v
abbrev REs (G : Gb) := fun (ι : List Addr) (F : Hp) (w : List W) (v : List V) => WRs G ι F w v
abbrev REq {α : Type} := fun (_ : List Addr) (_ : Hp) (a b : α) => a = b

/-! ## values and lists -/
section
variable {G : Gb} {E : XK} {ι : List Addr} {F H : Hp} {S : Sto}
theorem allD_eq : ∀ {ws : List W} {ds : List PyData}, allD ws = some ds → ws = ds.map .d
  | [], ds, e => by cases e; rfl
  | .d x :: r, ds, e => by
    unfold allD at e
    split at e
    · cases e
      rename_i l h
      rw [allD_eq h]; rfl
    · cases e
  | .ref _ :: _, _, e => by cases e
  | .ty _ :: _, _, e => by cases e
  | .exn _ _ :: _, _, e => by cases e
  | .cls _ :: _, _, e => by cases e
theorem wrs_at : ∀ {ds : List PyData} {xs : List V}, WRs G ι F (ds.map .d) xs → AtL G.K F xs ds
  | [], _, .nil => .nil
  | _ :: _, _, .cons h t => .cons h (wrs_at t)
theorem at_wrs : ∀ {xs : List V} {ds : List PyData}, AtL G.K F xs ds → WRs G ι F (ds.map .d) xs
  | _, [], .nil => .nil
  | _, _ :: _, .cons h t => .cons h (at_wrs t)
theorem seqL_ok (g : GoodS G ι F S H) {w : W} {v : V} {ws : List W} (r : WR G ι F w v) (e : seqL S w = some ws) : ∃ a xs, v = .ref a ∧ SqL G.K H a xs ∧ xs.length ≤ sizeLine ∧ WRs G ι F ws xs := by
  cases w with
  | d x =>
    cases x <;> first | (cases e; done) | skip
    cases e
    cases r with
    | lst h z t => exact ⟨_, _, rfl, g.ex.l h, z, at_wrs t⟩
  | ref n =>
    obtain ⟨a, h1, rfl⟩ := r
    unfold seqL at e
    simp only at e
    split at e
    · rename_i l hs
      cases e
      obtain ⟨f, xs, h2, h3, h4⟩ := g.obj n _ a hs h1
      exact ⟨a, xs, rfl, .inl (.inl h2), h3, h4⟩
    · cases e
  | ty t => cases e
  | exn c w => cases e
  | cls j => cases e
theorem seqT_ok (g : GoodS G ι F S H) {w : W} {v : V} {ws : List W} (r : WR G ι F w v) (e : seqT S w = some ws) : ∃ a xs, v = .ref a ∧ SqT G.K H a xs ∧ xs.length ≤ sizeLine ∧ WRs G ι F ws xs := by
  cases w with
  | d x =>
    cases x <;> first | (cases e; done) | skip
    cases e
    cases r with
    | tup h z t => exact ⟨_, _, rfl, g.ex.t h, z, at_wrs t⟩
  | ref n =>
    obtain ⟨a, h1, rfl⟩ := r
    unfold seqT at e
    simp only at e
    split at e
    · rename_i l hs
      cases e
      obtain ⟨f, xs, h2, h3, h4⟩ := g.obj n _ a hs h1
      exact ⟨a, xs, rfl, .inl (.inl h2), h3, h4⟩
    · cases e
  | ty t => cases e
  | exn c w => cases e
  | cls j => cases e
theorem mkL_ok {m : Bool} {ws : List W} {xs : List V} {Q : VK} (g : GoodS G ι F S H) (r : WRs G ι F ws xs) (hz : xs.length ≤ sizeLine) (h : Post G (RE G) E ι F H (mkL m ws S) Q) (p : Addr) (hp : H p = none) : Q (.ref p) (upd H p (.lst xs)) := by
  have obj : Post G (RE G) E ι F H (.ok (.ref S.length) (S ++ [.lst ws])) Q → Q (.ref p) (upd H p (.lst xs)) := fun h => by
    have pre : ι <+: ι ++ [p] := List.prefix_append _ _
    have hF : F p = none := by
      cases q : F p with
      | none => rfl
      | some o => rw [g.ex p o q] at hp; cases hp
    obtain ⟨g', l⟩ := g.push (p := p) (u := .lst xs) (o := .lst ws) hp ⟨hF, xs, upd_same, hz, r.up pre fun _ _ h => h⟩
    exact h _ _ _ _ l g' ⟨p, by rw [← g.len]; simp, rfl⟩
  unfold mkL at h
  split at h
  · exact obj h
  · split at h
    · rename_i ds e
      obtain ⟨g', l⟩ := g.data (u := .lst xs) hp
      rw [allD_eq e] at r
      exact h _ _ _ _ l g' (At.lst (.inl (.inl upd_same)) hz (AtL.mono l.ex _ (wrs_at r)))
    · exact obj h
theorem mkT_ok {ws : List W} {xs : List V} {Q : VK} (g : GoodS G ι F S H) (r : WRs G ι F ws xs) (hz : xs.length ≤ sizeLine) (h : Post G (RE G) E ι F H (mkT ws S) Q) (p : Addr) (hp : H p = none) : Q (.ref p) (upd H p (.tup xs)) := by
  unfold mkT at h
  split at h
  · rename_i ds e
    obtain ⟨g', l⟩ := g.data (u := .tup xs) hp
    rw [allD_eq e] at r
    exact h _ _ _ _ l g' (At.tup (.inl (.inl upd_same)) hz (AtL.mono l.ex _ (wrs_at r)))
  · have pre : ι <+: ι ++ [p] := List.prefix_append _ _
    have hF : F p = none := by
      cases q : F p with
      | none => rfl
      | some o => rw [g.ex p o q] at hp; cases hp
    obtain ⟨g', l⟩ := g.push (p := p) (u := .tup xs) (o := .tup ws) hp ⟨hF, xs, upd_same, hz, r.up pre fun _ _ h => h⟩
    exact h _ _ _ _ l g' ⟨p, by rw [← g.len]; simp, rfl⟩
theorem tupD_ok {ds : List PyData} {xs : List V} {Q : VK} (g : GoodS G ι F S H) (r : AtL G.K F xs ds) (hz : xs.length ≤ sizeLine) (h : Post G (RE G) E ι F H (.ok (.d (.tuple ds)) S) Q) (p : Addr) (hp : H p = none) : Q (.ref p) (upd H p (.tup xs)) := by
  obtain ⟨g', l⟩ := g.data (u := .tup xs) hp
  exact h _ _ _ _ l g' (At.tup (.inl (.inl upd_same)) hz (AtL.mono l.ex _ r))
/-! reading a value as data -/
theorem keyD_of {x : PyData} {k : Key} (e : keyOf x = some k) : x = keyD k := by
  cases x <;> cases e <;> rfl
theorem rbL_ok {H2 : Hp} {f : W → Option PyData} (hf : ∀ w x v, f w = some x → WR G ι F w v → At G.K H2 v x) : ∀ {ws : List W} {ds : List PyData} {xs : List V}, rbL f ws = some ds → WRs G ι F ws xs → AtL G.K H2 xs ds
  | [], ds, _, e, .nil => by cases e; exact .nil
  | w :: r, ds, _, e, .cons h t => by
    unfold rbL at e
    split at e
    · rename_i x l e1 e2
      cases e
      exact .cons (hf _ _ _ e1 h) (rbL_ok hf e2 t)
    · cases e
theorem rbK_ok {H2 : Hp} {f : W → Option PyData} (hf : ∀ w x v, f w = some x → WR G ι F w v → At G.K H2 v x) : ∀ {ws : List (Key × W)} {ds : List (PyData × PyData)} {xs : List (Key × V)}, rbK f ws = some ds → KR G ι F ws xs → AtK G.K H2 xs ds
  | [], ds, _, e, .nil => by cases e; exact .nil
  | (k, w) :: r, ds, (k', v') :: xs, e, .cons h t => by
    unfold rbK at e
    split at e
    · rename_i x l e1 e2
      cases e
      obtain ⟨h1, h2⟩ := h
      simp only at h1 h2
      subst h1
      exact .cons (hf _ _ _ e1 h2) (rbK_ok hf e2 t)
    · cases e
/-- a value that is read through the store is that data in any heap that has the data and the objects from lo on -/
theorem rb_ok {H2 : Hp} {lo : Nat} (g : GoodS G ι F S H) (hx : Ex F H2) (ho : ∀ n a u, lo ≤ n → ι[n]? = some a → H a = some u → H2 a = some u) : ∀ (n : Nat) (w : W) (x : PyData) (v : V), rb lo n S w = some x → WR G ι F w v → At G.K H2 v x
  | n, .d y, x, v, e, r => by
    have e' : some y = some x := by
      cases n <;> exact e
    cases e'
    exact At.mono hx _ r
  | 0, .ref i, x, v, e, r => by cases e
  | n + 1, .ref i, x, v, e, r => by
    obtain ⟨a, h1, rfl⟩ := r
    unfold rb at e
    split at e
    · cases e
    · rename_i hlo
      have hlo : lo ≤ i := by omega
      split at e
      · rename_i ws hs
        obtain ⟨f, xs, h2, h3, h4⟩ := g.obj i _ a hs h1
        cases q : rbL (rb lo n S) ws with
        | none => rw [q] at e; cases e
        | some l =>
          rw [q] at e
          cases e
          exact .lst (.inl (.inl (ho i a _ hlo h1 h2))) h3 (rbL_ok (fun w x v e r => rb_ok g hx ho n w x v e r) q h4)
      · rename_i ws hs
        obtain ⟨f, xs, h2, h3, h4⟩ := g.obj i _ a hs h1
        cases q : rbL (rb lo n S) ws with
        | none => rw [q] at e; cases e
        | some l =>
          rw [q] at e
          cases e
          exact .tup (.inl (.inl (ho i a _ hlo h1 h2))) h3 (rbL_ok (fun w x v e r => rb_ok g hx ho n w x v e r) q h4)
      · rename_i ws hs
        obtain ⟨f, xs, h2, h4⟩ := g.obj i _ a hs h1
        cases q : rbK (rb lo n S) ws with
        | none => rw [q] at e; cases e
        | some l =>
          rw [q] at e
          cases e
          exact .dk (.inl (ho i a _ hlo h1 h2)) (rbK_ok (fun w x v e r => rb_ok g hx ho n w x v e r) q h4)
      · cases e
  | n, .ty t, x, v, e, r => by cases n <;> cases e
  | n, .exn c w, x, v, e, r => by cases n <;> cases e
  | n, .cls j, x, v, e, r => by cases n <;> cases e
theorem rb_at (g : GoodS G ι F S H) {n : Nat} {w : W} {x : PyData} {v : V} (e : rb 0 n S w = some x) (r : WR G ι F w v) : At G.K H v x := rb_ok g g.ex (fun _ _ _ _ _ h => h) n w x v e r
theorem rb_dp (g : GoodS G ι F S H) {n : Nat} {w : W} {x : PyData} {v : V} (e : rb 0 n S w = some x) (r : WR G ι F w v) (c : SeqAt.shaped x = true) : Dp G.K H v x := At.dp x (rb_at g e r) (SeqAt.canLay_of_shaped c)
/-! dicts -/
theorem kV_of {k : PyData} {q : Key} {v : V} (e : keyOf k = some q) (r : WR G ι F (.d k) v) : v = kV q := by
  cases k <;> cases e <;> cases r <;> rfl
theorem keyD_inj {a b : Key} (e : keyD a = keyD b) : a = b := by
  cases a <;> cases b <;> cases e <;> rfl
theorem keyOf_D {q : Key} : keyOf (keyD q) = some q := by cases q <;> rfl
theorem dkOf_ok : ∀ {ds : List (PyData × PyData)} {kvs : List (Key × W)} {kv : List (Key × V)}, dkOf ds = some kvs → AtK G.K F kv ds → KR G ι F kvs kv
  | [], kvs, _, e, .nil => by cases e; exact .nil
  | _ :: _, kvs, _, e, .cons h t => by
    unfold dkOf at e
    rw [keyOf_D] at e
    split at e
    · rename_i q l e1 e2
      cases e
      cases e1
      exact .cons ⟨rfl, h⟩ (dkOf_ok e2 t)
    · cases e
theorem look_ok : ∀ {kvs : List (Key × W)} {kv : List (Key × V)} (q : Key), KR G ι F kvs kv → (lookW kvs q = none ∧ valV kv q = none) ∨ ∃ w v, lookW kvs q = some w ∧ valV kv q = some v ∧ WR G ι F w v
  | [], _, q, .nil => .inl ⟨rfl, rfl⟩
  | (k, w) :: r, _, q, .cons (b := kv0) h t => by
    obtain ⟨k', v⟩ := kv0
    obtain ⟨h1, h2⟩ := h
    simp only at h1 h2
    subst h1
    by_cases e : k = q
    · refine .inr ⟨w, v, ?_, ?_, h2⟩
      · simp [lookW, e]
      · simp [valV, e]
    · have := look_ok q t
      simpa [lookW, valV, e] using this
end
end MP
namespace MP
open PySem L2 PyProof.Rows PySem.Spec
section
variable {G : Gb} {E : XK} {ι : List Addr} {F H : Hp} {S : Sto} {x y : W} {v u : V} {Q : VK} {m : Bool}
theorem inv_int {i : Int} (r : WR G ι F (.d (.int i)) v) : v = .int i := by cases r; rfl
theorem inv_str {i : Str} (r : WR G ι F (.d (.str i)) v) : v = .str i := by cases r; rfl
theorem inv_bl {i : Bool} (r : WR G ι F (.d (.bool i)) v) : v = .bl i := by cases r; rfl
theorem inv_non (r : WR G ι F (.d .none) v) : v = .non := by cases r; rfl
theorem atL_app (ι : List Addr) {xs ys : List V} {a b : List PyData} (h1 : AtL G.K F xs a) (h2 : AtL G.K F ys b) : AtL G.K F (xs ++ ys) (a ++ b) := by
  have z := papp (at_wrs (G := G) (ι := ι) h1) (at_wrs h2)
  rw [← List.map_append] at z
  exact wrs_at z
theorem add_ok (g : GoodS G ι F S H) (r1 : WR G ι F x v) (r2 : WR G ι F y u) (h : Post G (RE G) E ι F H (addW m x y S) Q) : MP.r2 G.K .add v u H Q := by
  unfold addW at h
  split at h
  · cases inv_int r1; cases inv_int r2
    exact .inl ⟨_, _, rfl, rfl, Post.here h g (.int _)⟩
  · cases inv_str r1; cases inv_str r2
    split at h
    · exact .inr (.inl ⟨_, _, rfl, rfl, lim_lt (by assumption), Post.here h g (.str _)⟩)
    · exact h.elim
  · rename_i ds1 ds2
    split at h
    · rename_i hz
      have c1 := r1
      have c2 := r2
      cases c1 with
      | @tup a l1 _ q1 z1 t1 =>
      cases c2 with
      | @tup b l2 _ q2 z2 t2 =>
      have hz' : l1.length + l2.length ≤ sizeLine := by rw [t1.length, t2.length]; exact lim_lt hz
      refine .inr (.inr (.inr ⟨a, b, l1, l2, rfl, rfl, g.ex.t q1, g.ex.t q2, hz', fun e => ?_, fun e e' => ?_, fun e e' => ?_⟩))
      · subst e
        cases ds1 with
        | nil => exact Post.here h g r2
        | cons a r => cases t1
      · subst e'
        cases ds2 with
        | nil =>
          rw [List.append_nil] at h
          exact Post.here h g r1
        | cons a r => cases t2
      · exact tupD_ok g (atL_app ι t1 t2) (by rw [List.length_append]; exact hz') h
    · exact h.elim
  · split at h
    · rename_i xs ys e1 e2
      obtain ⟨a, l1, rfl, q1, z1, p1⟩ := seqL_ok g r1 e1
      obtain ⟨b, l2, rfl, q2, z2, p2⟩ := seqL_ok g r2 e2
      split at h
      · rename_i hz
        have hz' : l1.length + l2.length ≤ sizeLine := by rw [← p1.length, ← p2.length]; exact lim_lt hz
        exact .inr (.inr (.inl ⟨a, b, l1, l2, rfl, rfl, q1, q2, hz', mkL_ok g (papp p1 p2) (by rw [List.length_append]; exact hz') h⟩))
      · exact h.elim
    · exact h.elim
theorem mulOk_ok {z : Str} {n : Int} (h : mulOk z n = true) : MulOk z n := by
  unfold mulOk at h
  simp only [Bool.and_eq_true, decide_eq_true_eq] at h
  obtain ⟨⟨h1, h2⟩, h3⟩ := h
  obtain ⟨k, rfl⟩ := Int.eq_ofNat_of_zero_le h1
  have hk : k ≤ 1000 := by omega
  have hm : z.length * k ≤ 1000000 := by
    calc z.length * k ≤ 1000 * 1000 := Nat.mul_le_mul h3 hk
      _ = 1000000 := by decide
  refine ⟨?_, fun h4 h5 => ?_, fun h4 h5 => ?_⟩
  · simp only [Bool.or_eq_false_iff, decide_eq_false_iff_not]
    omega
  · rw [Int.not_lt] at *
    have : (1000 : Int) ≤ (2 ^ 63 - 1) / (k : Int) := by
      rw [Int.le_ediv_iff_mul_le (by omega)]
      omega
    omega
  · have : (k : Int).toNat = k := by omega
    rw [this]
    unfold Builtin.Str.tooLong
    simp only [decide_eq_false_iff_not, Nat.not_lt]
    have : (1000000 : Nat) ≤ sizeLine := by decide
    first | omega | (simp; omega)
theorem mul_ok (g : GoodS G ι F S H) (r1 : WR G ι F x v) (r2 : WR G ι F y u) (h : Post G (RE G) E ι F H (mulW m x y S) Q) : MP.r2 G.K .mul v u H Q := by
  unfold mulW at h
  split at h
  · cases inv_int r1; cases inv_int r2
    split at h
    · rename_i i j hc
      exact .inl ⟨i, j, rfl, rfl, hc, Post.here h g (.int _)⟩
    · exact h.elim
  · cases inv_str r1; cases inv_int r2
    split at h
    · rename_i hc
      exact .inr (.inl ⟨_, _, rfl, rfl, mulOk_ok hc, Post.here h g (.str _)⟩)
    · exact h.elim
  · rename_i _ _ k _ _
    cases inv_int r2
    split at h
    · rename_i xs e
      obtain ⟨a, l, rfl, q, z, p⟩ := seqL_ok g r1 e
      split at h
      · rename_i hc
        have hz : l.length * k.toNat ≤ sizeLine := by rw [← p.length]; exact lim_lt hc.2.2
        refine .inr (.inr ⟨a, _, l, rfl, rfl, q, ?_, ?_, hz, mkL_ok g (prep _ p) (by rw [PyProof.Rows.lm_len_rep_flat, Nat.mul_comm]; exact hz) h⟩)
        · have := hc.1; omega
        · have := hc.2.1; omega
      · exact h.elim
    · exact h.elim
  · exact h.elim
theorem int2_ok {f : Int → Int → R W} (h : Post G (RE G) E ι F H (int2 f x y) Q) (r1 : WR G ι F x v) (r2 : WR G ι F y u) : ∃ i j, v = .int i ∧ u = .int j ∧ Post G (RE G) E ι F H (f i j) Q := by
  unfold int2 at h
  split at h
  · cases inv_int r1; cases inv_int r2
    exact ⟨_, _, rfl, rfl, h⟩
  · exact h.elim
theorem dget_ok (g : GoodS G ι F S H) {o : Option W} (r1 : WR G ι F x v) (r2 : WR G ι F y u) (h : dget S x y = some o) : ∃ a, v = .ref a ∧ ((o = none ∧ DGet H a u none) ∨ ∃ w z, o = some w ∧ DGet H a u (some z) ∧ WR G ι F w z) := by
  unfold dget at h
  split at h
  · rename_i n k
    obtain ⟨a, h1, rfl⟩ := r1
    split at h
    · rename_i kvs q hs hk
      cases h
      obtain ⟨f, kv, h2, h3⟩ := g.obj n _ a hs h1
      refine ⟨a, rfl, ?_⟩
      cases kV_of hk r2
      rcases look_ok q h3 with ⟨e1, e2⟩ | ⟨w, z, e1, e2, e3⟩
      · exact .inl ⟨e1, .inl ⟨kv, q, .inl h2, rfl, e2.symm⟩⟩
      · exact .inr ⟨w, z, e1, .inl ⟨kv, q, .inl h2, rfl, e2.symm⟩, e3⟩
    · cases h
  · rename_i ds k
    split at h
    · rename_i kvs q hs hk
      cases h
      cases kV_of hk r2
      cases r1 with
      | @dk a kv _ hr ht =>
        refine ⟨a, rfl, ?_⟩
        rcases look_ok q (dkOf_ok (ι := ι) hs ht) with ⟨e1, e2⟩ | ⟨w, z, e1, e2, e3⟩
        · exact .inl ⟨e1, .inl ⟨kv, q, g.ex.rd hr, rfl, e2.symm⟩⟩
        · exact .inr ⟨w, z, e1, .inl ⟨kv, q, g.ex.rd hr, rfl, e2.symm⟩, e3⟩
    · cases h
  · cases h
theorem hereB {b : Bool} (h : Post G (RE G) E ι F H (.ok (.d (.bool b)) S) Q) (g : GoodS G ι F S H) : Q (.bl b) H := Post.here h g (show WR G ι F (.d (.bool b)) (.bl b) from At.bl b)
theorem in_ok {neg : Bool} (g : GoodS G ι F S H) (r1 : WR G ι F x v) (r2 : WR G ι F y u) (h : Post G (RE G) E ι F H (inW neg x y S) Q) : MP.r2 G.K (if neg then .nin else .inn) v u H Q := by
  unfold inW at h
  split at h
  · split at h
    · rename_i o e
      obtain ⟨a, rfl, q⟩ := dget_ok g r2 r1 e
      have key : ∃ o', DGet H a v o' ∧ o'.isSome = o.isSome := by
        rcases q with ⟨e1, e2⟩ | ⟨w, z, e1, e2, e3⟩
        · exact ⟨none, e2, by subst e1; rfl⟩
        · exact ⟨some z, e2, by subst e1; rfl⟩
      obtain ⟨o', d, e'⟩ := key
      have z := hereB h g
      rw [← e'] at z
      cases neg
      · exact .inr (.inl ⟨a, o', rfl, d, z⟩)
      · exact .inr (.inl ⟨a, o', rfl, d, z⟩)
    · exact h.elim
  · split at h
    · rename_i a ds e1 e2
      split at h
      · rename_i hs
        rw [Bool.and_eq_true] at hs
        have z := hereB h g
        cases neg
        · exact .inl ⟨a, ds, rb_dp g e1 r1 hs.1, rb_dp g e2 r2 hs.2, hs.1, hs.2, z⟩
        · exact .inl ⟨a, ds, rb_dp g e1 r1 hs.1, rb_dp g e2 r2 hs.2, hs.1, hs.2, z⟩
      · exact h.elim
    · rename_i c z e1 e2
      have a1 := rb_at g e1 r1
      have a2 := rb_at g e2 r2
      cases a1; cases a2
      split at h
      · rename_i hc
        obtain ⟨⟨cs⟩⟩ := c
        simp only [List.size_toArray] at hc
        match cs, hc with
        | [c], _ =>
          have q := hereB h g
          cases neg
          · exact .inr (.inr (.inl ⟨c, z, rfl, rfl, q⟩))
          · exact .inr (.inr (.inl ⟨c, z, rfl, rfl, q⟩))
      · exact h.elim
    · exact h.elim
theorem eq_ok {neg : Bool} (g : GoodS G ι F S H) (r1 : WR G ι F x v) (r2 : WR G ι F y u) (h : Post G (RE G) E ι F H (eqW neg x y S) Q) : MP.r2 G.K (if neg then .ne else .eq) v u H Q := by
  unfold eqW at h
  split at h
  · rename_i a b e1 e2
    split at h
    · rename_i hs
      rw [Bool.and_eq_true] at hs
      have z := hereB h g
      cases neg
      · exact ⟨a, b, rb_dp g e1 r1 hs.1, rb_dp g e2 r2 hs.2, hs.1, hs.2, z⟩
      · exact ⟨a, b, rb_dp g e1 r1 hs.1, rb_dp g e2 r2 hs.2, hs.1, hs.2, z⟩
    · exact h.elim
  · exact h.elim
theorem ne_non (r : WR G ι F x v) (h : x = .d .none → False) : v ≠ .non := by
  intro e
  subst e
  cases x with
  | d y => cases r; exact h rfl
  | ref n => obtain ⟨a, _, z⟩ := r; cases z
  | ty t => cases r
  | exn c w => obtain ⟨a, z, _⟩ := r; cases z
  | cls j => cases r
theorem is_ok {neg : Bool} (g : GoodS G ι F S H) (r1 : WR G ι F x v) (r2 : WR G ι F y u) (h : Post G (RE G) E ι F H (isW neg x y S) Q) : MP.r2 G.K (if neg then .isn else .is_) v u H Q := by
  unfold isW at h
  split at h
  · cases inv_non r1; cases inv_non r2
    have q := hereB h g
    cases neg
    · exact .inl ⟨rfl, by simpa using q⟩
    · exact .inl ⟨rfl, by simpa using q⟩
  · rename_i hn
    cases inv_non r2
    have nn := ne_non r1 hn
    have q := hereB h g
    cases neg
    · exact .inl ⟨rfl, by simpa [nn] using q⟩
    · exact .inl ⟨rfl, by simpa [nn] using q⟩
  · cases inv_bl r1; cases inv_bl r2
    have q := hereB h g
    cases neg
    · exact .inr ⟨_, _, rfl, rfl, q⟩
    · exact .inr ⟨_, _, rfl, rfl, q⟩
  · exact h.elim
theorem op2_ok {o : Op2} (g : GoodS G ι F S H) (r1 : WR G ι F x v) (r2 : WR G ι F y u) (h : Post G (RE G) E ι F H (op2 o m x y S) Q) : MP.r2 G.K o v u H Q := by
  cases o
  case add => exact add_ok g r1 r2 h
  case mul => exact mul_ok g r1 r2 h
  case eq => exact eq_ok (neg := false) g r1 r2 h
  case ne => exact eq_ok (neg := true) g r1 r2 h
  case inn => exact in_ok (neg := false) g r1 r2 h
  case nin => exact in_ok (neg := true) g r1 r2 h
  case is_ => exact is_ok (neg := false) g r1 r2 h
  case isn => exact is_ok (neg := true) g r1 r2 h
  case fdiv =>
    obtain ⟨i, j, rfl, rfl, h⟩ := int2_ok h r1 r2
    split at h
    · rename_i hc
      exact ⟨i, j, rfl, rfl, hc, Post.here h g (.int _)⟩
    · exact h.elim
  case mod =>
    obtain ⟨i, j, rfl, rfl, h⟩ := int2_ok h r1 r2
    split at h
    · rename_i hc
      exact ⟨i, j, rfl, rfl, hc, Post.here h g (.int _)⟩
    · exact h.elim
  case pow =>
    obtain ⟨i, j, rfl, rfl, h⟩ := int2_ok h r1 r2
    split at h
    · rename_i hc
      exact ⟨i, j, rfl, rfl, hc, Post.here h g (.int _)⟩
    · exact h.elim
  all_goals
    obtain ⟨i, j, rfl, rfl, h⟩ := int2_ok h r1 r2
    first
      | exact ⟨i, j, rfl, rfl, Post.here h g (.int _)⟩
      | exact ⟨i, j, rfl, rfl, hereB h g⟩
end
end MP
namespace MP
open PySem L2 PyProof.Rows PySem.Spec
def tyAll : List String := ["NoneType", "bool", "int", "str", "list", "tuple", "dict"]
theorem kit_tab (K : PySem.W.Frag) : ∀ a ∈ tyAll, ∀ b ∈ tyNames, PySem.W.kitOne K (.type a) (.type b) = some (isiB a b) := by
  have h : ∀ a ∈ tyAll, ∀ b ∈ tyNames, ((if ((Value.type a : Value) == .type b) = true then some true else (if PySem.W.kitMeta b = true then (fastBuiltinMro a).map (·.contains (.type b)) else none)) == some (isiB a b)) = true := by
    decide +kernel
  intro a ha b hb
  exact eq_of_beq (h a ha b hb)
section
variable {G : Gb} {E : XK} {ι : List Addr} {F H : Hp} {S : Sto} {x y : W} {v u : V} {Q : VK} {m : Bool}
theorem hereI {b : Int} (h : Post G (RE G) E ι F H (.ok (.d (.int b)) S) Q) (g : GoodS G ι F S H) : Q (.int b) H := Post.here h g (show WR G ι F (.d (.int b)) (.int b) from At.int b)
theorem pnth {ws : List W} {xs : List V} (r : WRs G ι F ws xs) {i : Int} {w : W} (e : atI ws i = some w) : ∃ v, atI xs i = some v ∧ WR G ι F w v := by
  unfold atI at e ⊢
  rw [r.length] at e
  cases q : ixN xs.length i with
  | none => rw [q] at e; cases e
  | some j =>
    rw [q] at e
    obtain ⟨v, h1, h2⟩ := pget r e
    exact ⟨v, h1, h2⟩
theorem ix_ok (g : GoodS G ι F S H) (r1 : WR G ι F x v) (r2 : WR G ι F y u) (h : Post G (RE G) E ι F H (ixW x y S) Q) : rIxA G.K v u H Q := by
  unfold ixW at h
  split at h
  · split at h
    · rename_i w e
      obtain ⟨a, rfl, q⟩ := dget_ok g r1 r2 e
      rcases q with ⟨e1, e2⟩ | ⟨w', z, e1, e2, e3⟩
      · cases e1
      · cases e1
        exact .inr ⟨a, z, rfl, e2, Post.here h g e3⟩
    · exact h.elim
  · split at h
    · rename_i i
      cases inv_int r2
      split at h
      · cases inv_str r1
        split at h
        · rename_i hz
          split at h
          · rename_i c e
            exact .inl (.inr (.inr ⟨_, i, c, rfl, rfl, lim_lt hz, e, Post.here h g (.str _)⟩))
          · exact h.elim
        · exact h.elim
      · split at h
        · rename_i ws e
          obtain ⟨a, l, rfl, q, z, p⟩ := seqL_ok g r1 e
          split at h
          · rename_i w e'
            obtain ⟨v, e1, e2⟩ := pnth p e'
            exact .inl (.inl ⟨a, l, i, v, rfl, rfl, q, e1, Post.here h g e2⟩)
          · exact h.elim
        · split at h
          · rename_i ws e
            obtain ⟨a, l, rfl, q, z, p⟩ := seqT_ok g r1 e
            split at h
            · rename_i w e'
              obtain ⟨v, e1, e2⟩ := pnth p e'
              exact .inl (.inr (.inl ⟨a, l, i, v, rfl, rfl, q, e1, Post.here h g e2⟩))
            · exact h.elim
          · exact h.elim
    · exact h.elim
theorem pcut {ws : List W} {xs : List V} (r : WRs G ι F ws xs) (lo hi : Option Int) : WRs G ι F (cut ws lo hi) (cutV xs lo hi) := by
  unfold cut cutV
  rw [r.length]
  exact ptake _ (pdrop _ r)
theorem sl_ok {lo hi : Option Int} (g : GoodS G ι F S H) (r1 : WR G ι F x v) (h : Post G (RE G) E ι F H (slW x lo hi S) Q) : rSl G.K v lo hi H Q := by
  unfold slW at h
  split at h
  · cases inv_str r1
    split at h
    · rename_i z hz
      exact .inr (.inr ⟨z, rfl, lim_lt hz, Post.here h g (.str _)⟩)
    · exact h.elim
  · split at h
    · rename_i ws e
      obtain ⟨a, l, rfl, q, z, p⟩ := seqL_ok g r1 e
      exact .inl ⟨a, l, rfl, q, mkL_ok g (pcut p lo hi) (Nat.le_trans (cutV_length ..) z) h⟩
    · split at h
      · rename_i ds _ _
        have r1' := r1
        cases r1' with
        | @tup a l _ q z t =>
        have tc : AtL G.K F (cutV l lo hi) (cut ds lo hi) := by
          have w := at_wrs (G := G) (ι := ι) t
          have z := pcut w lo hi
          have e : cut (ds.map W.d) lo hi = (cut ds lo hi).map W.d := by
            unfold cut
            rw [List.map_take, List.map_drop, List.length_map]
          rw [e] at z
          exact wrs_at z
        refine .inr (.inl ⟨a, l, rfl, g.ex.t q, fun e => ?_, fun e p hp => ?_⟩)
        · have e' : cut ds lo hi = ds := by
            unfold cut
            rw [← t.length, e.1, e.2]
            simp [t.length]
          rw [e'] at h
          exact Post.here h g r1
        · exact tupD_ok g tc (Nat.le_trans (cutV_length ..) z) h p hp
      · exact h.elim
theorem tru_ok {k : Bool} (g : GoodS G ι F S H) (r : WR G ι F x v) (h : tru S x = some k) : TruV G.K v H k := by
  unfold tru at h
  split at h
  · cases inv_non r; cases h; exact rfl
  · cases inv_bl r; cases h; exact rfl
  · cases inv_int r; cases h; exact rfl
  · cases inv_str r
    split at h
    · rename_i hz
      cases h; exact ⟨lim_lt hz, rfl⟩
    · cases h
  · cases h
    cases r with
    | @lst a l ds q z t =>
    refine .inl ⟨l, g.ex.l q, ?_⟩
    cases t <;> rfl
  · cases h
    cases r with
    | @tup a l ds q z t =>
    refine .inr (.inl ⟨l, g.ex.t q, ?_⟩)
    cases t <;> rfl
  · rename_i n
    obtain ⟨a, h1, rfl⟩ := r
    split at h
    · rename_i ws hs
      cases h
      obtain ⟨f, xs, h2, h3, h4⟩ := g.obj n _ a hs h1
      refine .inl ⟨xs, .inl (.inl h2), ?_⟩
      cases h4 <;> rfl
    · rename_i ws hs
      cases h
      obtain ⟨f, xs, h2, h3, h4⟩ := g.obj n _ a hs h1
      refine .inr (.inl ⟨xs, .inl (.inl h2), ?_⟩)
      cases h4 <;> rfl
    · rename_i ws hs
      cases h
      obtain ⟨f, xs, h2, h4⟩ := g.obj n _ a hs h1
      refine .inr (.inr ⟨xs, h2, ?_⟩)
      cases h4 <;> rfl
    · cases h
  · cases h
theorem tyL {a : Addr} {xs : List V} (h : SqL G.K H a xs) : TyX G.K H (.ref a) (.type "list") := by
  rcases h with (h | ⟨o, h⟩) | ⟨o, its, n, h, c, _⟩
  · exact .base (.lst h)
  · exact .base (.frz h)
  · exact .kList h c
theorem tyT {a : Addr} {xs : List V} (h : SqT G.K H a xs) : TyX G.K H (.ref a) (.type "tuple") := by
  rcases h with (h | ⟨o, h⟩) | ⟨o, its, n, h, c, _⟩
  · exact .base (.tup h)
  · exact .fTuple h
  · exact .kTuple h c
theorem tyK {a : Addr} {xs : List (Key × V)} (h : Rd H a (.dK xs)) : TyX G.K H (.ref a) (.type "dict") := by
  rcases h with h | ⟨o, h⟩
  · exact .base (.dK h)
  · exact .fDict h
theorem typ_ok {t : String} (g : GoodS G ι F S H) (r : WR G ι F x v) (h : typOf S x = some t) : TyX G.K H v (.type t) ∧ t ∈ tyAll := by
  unfold typOf at h
  split at h
  · cases inv_non r; cases h; exact ⟨.base .non, by decide⟩
  · cases inv_bl r; cases h; exact ⟨.base (.bl _), by decide⟩
  · cases inv_int r; cases h; exact ⟨.base (.int _), by decide⟩
  · cases inv_str r; cases h; exact ⟨.base (.str _), by decide⟩
  · cases h
    cases r with
    | @lst a l ds q z t => exact ⟨tyL (g.ex.l q), by decide⟩
  · cases h
    cases r with
    | @tup a l ds q z t => exact ⟨tyT (g.ex.t q), by decide⟩
  · cases h
    cases r with
    | @dk a l ds q t => exact ⟨tyK (g.ex.rd q), by decide⟩
  · rename_i n
    obtain ⟨a, h1, rfl⟩ := r
    split at h
    · rename_i ws hs
      cases h
      obtain ⟨f, xs, h2, h3, h4⟩ := g.obj n _ a hs h1
      exact ⟨.base (.lst h2), by decide⟩
    · rename_i ws hs
      cases h
      obtain ⟨f, xs, h2, h3, h4⟩ := g.obj n _ a hs h1
      exact ⟨.base (.tup h2), by decide⟩
    · rename_i ws hs
      cases h
      obtain ⟨f, xs, h2, h4⟩ := g.obj n _ a hs h1
      exact ⟨.base (.dK h2), by decide⟩
    · cases h
  · cases h
/-! built-ins -/
theorem wrs1 {w : W} {xs : List V} (r : WRs G ι F [w] xs) : ∃ v, xs = [v] ∧ WR G ι F w v := by
  cases r with
  | cons r t => cases t; exact ⟨_, rfl, r⟩
theorem wrs2 {w w' : W} {xs : List V} (r : WRs G ι F [w, w'] xs) : ∃ v v', xs = [v, v'] ∧ WR G ι F w v ∧ WR G ι F w' v' := by
  cases r with
  | cons r t =>
    obtain ⟨v', rfl, r'⟩ := wrs1 t
    exact ⟨_, _, rfl, r, r'⟩
theorem wrs0 {xs : List V} (r : WRs G ι F [] xs) : xs = [] := by cases r; rfl
theorem len_ok {n : Nat} (g : GoodS G ι F S H) (r : WR G ι F x v) (h : lenW S x = some n) : LenV G.K v H n ∨ ∃ p kvs, v = .ref p ∧ Rd H p (.dK kvs) ∧ n = kvs.length := by
  unfold lenW at h
  split at h
  · cases inv_str r
    split at h
    · rename_i hz
      cases h; exact .inl ⟨lim_lt hz, rfl⟩
    · cases h
  · cases h
    cases r with
    | @lst a l ds q z t => exact .inl (.inl ⟨l, g.ex.l q, t.length.symm⟩)
  · cases h
    cases r with
    | @tup a l ds q z t => exact .inl (.inr ⟨l, g.ex.t q, t.length.symm⟩)
  · rename_i ds
    split at h
    · rename_i kvs hk
      cases h
      cases r with
      | @dk a l ds q t =>
        refine .inr ⟨a, l, rfl, g.ex.rd q, ?_⟩
        clear hk
        have len : ∀ {l : List (Key × V)} {ds : List (PyData × PyData)}, AtK G.K F l ds → ds.length = l.length := by
          intro l
          induction l with
          | nil => intro ds t; cases t; rfl
          | cons a r ih => intro ds t; cases t with | cons h t => rw [List.length_cons, List.length_cons, ih t]
        exact len t
    · cases h
  · rename_i n
    obtain ⟨a, h1, rfl⟩ := r
    split at h
    · rename_i ws hs
      cases h
      obtain ⟨f, xs, h2, h3, h4⟩ := g.obj n _ a hs h1
      exact .inl (.inl ⟨xs, .inl (.inl h2), h4.length⟩)
    · rename_i ws hs
      cases h
      obtain ⟨f, xs, h2, h3, h4⟩ := g.obj n _ a hs h1
      exact .inl (.inr ⟨xs, .inl (.inl h2), h4.length⟩)
    · rename_i ws hs
      cases h
      obtain ⟨f, xs, h2, h4⟩ := g.obj n _ a hs h1
      exact .inr ⟨a, xs, rfl, .inl h2, h4.length⟩
    · cases h
  · cases h
theorem ints_ok : ∀ {ws : List W} {xs : List V} {ns : List Int}, intsW ws = some ns → WRs G ι F ws xs → xs = ns.map .int
  | [], _, ns, e, .nil => by cases e; rfl
  | w :: r, _, ns, e, .cons h t => by
    unfold intsW at e
    split at e
    · rename_i h2; cases h2
    · rename_i i r' h2
      cases h2
      split at e
      · rename_i l e2
        cases e
        cases inv_int h
        rw [ints_ok e2 t]; rfl
      · cases e
    · cases e
/-- what the written part says of the errors' classes -/
structure GdOk (G : Gb) (gd : Gd) : Prop where
  hv : ∀ c, gd.hv c = G.hv c
  ex : ∀ c, gd.ex c = true → ExcC G.K (G.cl c) ∧ (G.hv c = true → XfC G.K (G.cl c) ∧ PySem.W.findIn G.K (.ref (G.cl c)) "value" = some none) ∧ PySem.W.mroIn G.K (G.cl c) (.type "object") = some true ∧
    PySem.W.findIn G.K (.ref (G.cl c)) "__eq__" = some (some (.builtin "object.__eq__"))
  sub : ∀ c t b, gd.sub c t = some b → gd.ex c = true ∧ PySem.W.kitOne G.K (.ref (G.cl c)) (match t with | .own j => .ref (G.cl j) | .ty s => .type s) = some b
  dat : ∀ a ∈ tyAll, ∀ j, gd.ex j = true → PySem.W.kitOne G.K (.type a) (.ref (G.cl j)) = some false
theorem exn_at (g : GoodS G ι F S H) {c : Nat} {w : W} {v : V} (r : WR G ι F (.exn c w) v) : ∃ a d, v = .ref a ∧ H a = some (exo a (G.cl c) d) ∧ (∀ e, d = some e → ∃ fs, H e = some (exd e fs)) ∧ F a = some (exo a (G.cl c) d) := by
  obtain ⟨a, rfl, h⟩ := r
  by_cases hv : G.hv c = true
  · rw [if_pos hv] at h
    obtain ⟨d, x, h1, h2, h3⟩ := h
    exact ⟨a, some d, rfl, g.ex _ _ h1, fun e q => by cases q; exact ⟨_, g.ex _ _ h2⟩, h1⟩
  · rw [if_neg hv] at h
    exact ⟨a, none, rfl, g.ex _ _ h, fun e q => (nomatch q), h⟩
theorem bi_okW {gd : Gd} (Y : GdOk G gd) {b : Bi} {ws : List W} {xs : List V} (g : GoodS G ι F S H) (r : WRs G ι F ws xs) (h : Post G (RE G) E ι F H (biW gd b m ws S) Q) : rBi G.K b xs H Q := by
  unfold biW at h
  split at h
  · obtain ⟨_, rfl, r1⟩ := wrs1 r
    split at h
    · rename_i n e
      have q := hereI h g
      rcases len_ok g r1 e with z | ⟨p, kvs, rfl, z1, z2⟩
      · exact .inl ⟨_, n, rfl, z, q⟩
      · subst z2
        exact .inr ⟨p, kvs, rfl, z1, q⟩
    · exact h.elim
  · rename_i c w t
    obtain ⟨_, _, rfl, r1, r2⟩ := wrs2 r
    cases (show _ = V.ty t from r2)
    split at h
    · rename_i k e
      obtain ⟨a, d, rfl, h1, h2, _⟩ := exn_at g r1
      obtain ⟨e1, e2⟩ := Y.sub _ _ _ e
      exact .inr ⟨a, _, d, .ty t, .type t, k, rfl, h1, h2, .ty t, (Y.ex _ e1).1, e2, hereB h g⟩
    · exact h.elim
  · rename_i c w j
    obtain ⟨_, _, rfl, r1, r2⟩ := wrs2 r
    cases (show _ = V.ref (G.cl j) from r2)
    split at h
    · rename_i k e
      obtain ⟨a, d, rfl, h1, h2, _⟩ := exn_at g r1
      obtain ⟨e1, e2⟩ := Y.sub _ _ _ e
      exact .inr ⟨a, _, d, .ref (G.cl j), .ref (G.cl j), k, rfl, h1, h2, .own _, (Y.ex _ e1).1, e2, hereB h g⟩
    · exact h.elim
  · rename_i x t _
    obtain ⟨_, _, rfl, r1, r2⟩ := wrs2 r
    split at h
    · rename_i a e
      split at h
      · rename_i ht
        cases (show _ = V.ty t from r2)
        obtain ⟨z1, z2⟩ := typ_ok g r1 e
        exact .inl ⟨_, .ty t, _, _, _, rfl, .ty t, z1, kit_tab G.K a z2 t ht, hereB h g⟩
      · exact h.elim
    · exact h.elim
  · rename_i x j _
    obtain ⟨_, _, rfl, r1, r2⟩ := wrs2 r
    cases (show _ = V.ref (G.cl j) from r2)
    split at h
    · rename_i a e
      split at h
      · rename_i hj
        obtain ⟨z1, z2⟩ := typ_ok g r1 e
        exact .inl ⟨_, .ref (G.cl j), _, _, _, rfl, .own _, z1, Y.dat a z2 j hj, hereB h g⟩
      · exact h.elim
    · exact h.elim
  · obtain ⟨_, _, rfl, r1, r2⟩ := wrs2 r
    cases inv_int r1; cases inv_int r2
    exact ⟨_, _, rfl, hereI h g⟩
  · obtain ⟨_, rfl, r1⟩ := wrs1 r
    split at h
    · rename_i l e
      obtain ⟨a, xs, rfl, q, z, p⟩ := seqL_ok g r1 e
      split at h
      · rename_i ns e2
        rw [ints_ok e2 p] at q
        exact ⟨a, ns, rfl, q, hereI h g⟩
      · exact h.elim
    · exact h.elim
  · obtain ⟨_, rfl, r1⟩ := wrs1 r
    cases inv_int r1
    exact ⟨_, rfl, .inl ⟨_, rfl, hereI h g⟩⟩
  · obtain ⟨_, rfl, r1⟩ := wrs1 r
    cases inv_bl r1
    exact ⟨_, rfl, .inr ⟨_, rfl, hereI h g⟩⟩
  · obtain ⟨_, rfl, r1⟩ := wrs1 r
    split at h
    · rename_i l e
      obtain ⟨a, xs, rfl, q, z, p⟩ := seqL_ok g r1 e
      exact ⟨a, xs, rfl, .inl q, mkL_ok g p z h⟩
    · split at h
      · rename_i l e
        obtain ⟨a, xs, rfl, q, z, p⟩ := seqT_ok g r1 e
        exact ⟨a, xs, rfl, .inr q, mkL_ok g p z h⟩
      · exact h.elim
  · obtain ⟨_, rfl, r1⟩ := wrs1 r
    split at h
    · rename_i l e
      obtain ⟨a, xs, rfl, q, z, p⟩ := seqL_ok g r1 e
      exact ⟨a, xs, rfl, .inl ⟨q, mkT_ok g p z h⟩⟩
    · split at h
      · have r1' := r1
        cases r1' with
        | @tup a l ds q z t => exact ⟨a, l, rfl, .inr ⟨g.ex.t q, Post.here h g r1⟩⟩
      · exact h.elim
  · exact h.elim
/-! methods and stores -/
theorem mt_okW {k : Mt} {ws : List W} {xs : List V} (g : GoodS G ι F S H) (r1 : WR G ι F x v) (r : WRs G ι F ws xs) (h : Post G (RE G) E ι F H (mtW k x ws S) Q) : rMt G.K k v xs H Q := by
  unfold mtW at h
  split at h
  · rename_i n w
    obtain ⟨_, rfl, r2⟩ := wrs1 r
    obtain ⟨a, h1, rfl⟩ := r1
    split at h
    · rename_i l hs
      obtain ⟨f, ys, h2, h3, h4⟩ := g.obj n _ a hs h1
      split at h
      · rename_i hl
        have hl2 : ys.length < sizeLine := by rw [← h4.length]; exact Nat.lt_of_lt_of_le hl lim_le
        refine ⟨a, ys, _, rfl, rfl, h2, hl2, ?_⟩
        obtain ⟨g', l'⟩ := g.write (u := .lst (ys ++ [_])) (o := .lst (l ++ [w])) hs h1 f ⟨f, _, upd_same, by rw [List.length_append]; exact hl2, papp h4 (.cons r2 .nil)⟩
        exact h _ _ _ _ l' g' At.non
      · exact h.elim
    · exact h.elim
  · cases wrs0 r
    rename_i n
    obtain ⟨a, h1, rfl⟩ := r1
    split at h
    · rename_i l hs
      obtain ⟨f, ys, h2, h3, h4⟩ := g.obj n _ a hs h1
      split at h
      · rename_i w hw
        rw [h4.length] at hw
        obtain ⟨z, e1, e2⟩ := pget h4 hw
        refine ⟨a, ys, z, rfl, rfl, h2, e1, ?_⟩
        obtain ⟨g', l'⟩ := g.write (u := .lst ys.dropLast) (o := .lst l.dropLast) hs h1 f ⟨f, _, upd_same, by rw [List.length_dropLast]; omega, pdropLast h4⟩
        exact h _ _ _ _ l' g' (e2.le l')
      · exact h.elim
    · exact h.elim
  · rename_i n i
    obtain ⟨_, rfl, r2⟩ := wrs1 r
    cases inv_int r2
    obtain ⟨a, h1, rfl⟩ := r1
    split at h
    · rename_i l hs
      obtain ⟨f, ys, h2, h3, h4⟩ := g.obj n _ a hs h1
      split at h
      · rename_i hi
        split at h
        · rename_i w hw
          obtain ⟨z, e1, e2⟩ := pget h4 hw
          have hsz : (sizeLine : Nat) < 2 ^ 63 := line63
          have hl := h4.length
          refine ⟨a, ys, i, i.toNat, z, rfl, rfl, h2, by omega, by omega, ?_, e1, ?_⟩
          · unfold seqIndex?
            have c1 : ¬ i < 0 := by omega
            have c2 : i < (ys.length : Int) := by omega
            simp [c1, c2, hi.1]
          obtain ⟨g', l'⟩ := g.write (u := .lst (ys.eraseIdx i.toNat)) (o := .lst (l.eraseIdx i.toNat)) hs h1 f ⟨f, _, upd_same, by rw [List.length_eraseIdx]; split <;> omega, perase _ h4⟩
          exact h _ _ _ _ l' g' (e2.le l')
        · exact h.elim
      · exact h.elim
    · exact h.elim
  · exact h.elim
theorem any_key {q : Key} : ∀ {kvs : List (Key × W)} {kv : List (Key × V)}, KR G ι F kvs kv → (kvs.any fun p => decide (p.1 = q)) = (kv.any fun p => decide (p.1 = q))
  | _, _, .nil => rfl
  | (_, _) :: _, (_, _) :: _, .cons h t => by
    rw [List.any_cons, List.any_cons, any_key t]
    have := h.1
    simp only at this
    rw [this]
theorem map_key {q : Key} {w : W} {v : V} (r : WR G ι F w v) : ∀ {kvs : List (Key × W)} {kv : List (Key × V)}, KR G ι F kvs kv → KR G ι F (kvs.map fun p => if p.1 = q then (p.1, w) else p) (kv.map fun p => if p.1 = q then (p.1, v) else p)
  | _, _, .nil => .nil
  | (k, _) :: _, (_, _) :: _, .cons h t => by
    have h1 := h.1
    have h2 := h.2
    simp only at h1 h2
    subst h1
    rw [List.map_cons, List.map_cons]
    refine .cons ?_ (map_key r t)
    by_cases e : k = q
    · rw [if_pos e, if_pos e]; exact ⟨rfl, r⟩
    · rw [if_neg e, if_neg e]; exact ⟨rfl, h2⟩
theorem put_ok {q : Key} {w : W} {v : V} {kvs : List (Key × W)} {kv : List (Key × V)} (r : WR G ι F w v) (h : KR G ι F kvs kv) : KR G ι F (putW kvs q w) (putK kv q v) := by
  unfold putW putK
  rw [any_key h]
  split
  · exact map_key r h
  · exact papp h (.cons ⟨rfl, r⟩ .nil)
theorem set_okW {w : W} {z : V} {Q : Hp → Prop} (g : GoodS G ι F S H) (r1 : WR G ι F x v) (r2 : WR G ι F y u) (r3 : WR G ι F w z) (h : Post G (fun _ _ (_ : Unit) (_ : Unit) => True) E ι F H (setW x y w S) (fun _ H => Q H)) : rSet v u z H Q := by
  unfold setW at h
  split at h
  · rename_i n
    obtain ⟨a, h1, rfl⟩ := r1
    split at h
    · rename_i l hs
      obtain ⟨f, ys, h2, h3, h4⟩ := g.obj n _ a hs h1
      split at h
      · rename_i i
        cases inv_int r2
        split at h
        · rename_i j hj
          rw [h4.length] at hj
          obtain ⟨g', l'⟩ := g.write (u := .lst (ys.set j z)) (o := .lst (l.set j w)) hs h1 f ⟨f, _, upd_same, by rw [List.length_set]; exact h3, pset r3 j h4⟩
          exact .inl ⟨a, ys, i, j, rfl, rfl, h2, hj, h _ _ _ () l' g' trivial⟩
        · exact h.elim
      · exact h.elim
    · rename_i l hs
      obtain ⟨f, ys, h2, h4⟩ := g.obj n _ a hs h1
      split at h
      · rename_i k
        split at h
        · rename_i q hq
          split at h
          · rename_i hl
            cases kV_of hq r2
            obtain ⟨g', l'⟩ := g.write (u := .dK (putK ys q z)) (o := .dk (putW l q w)) hs h1 f ⟨f, _, upd_same, put_ok r3 h4⟩
            exact .inr ⟨a, _, rfl, .inl ⟨ys, q, h2, rfl, by rw [← h4.length]; exact Nat.lt_of_lt_of_le hl lim_le, rfl⟩, h _ _ _ () l' g' trivial⟩
          · exact h.elim
        · exact h.elim
      · exact h.elim
    · exact h.elim
  · exact h.elim
end
end MP
namespace MP
open PySem L2 PyProof.Rows PySem.Spec
/-! ## slots -/
def ER (G : Gb) (ι : List Addr) (F : Hp) (ρ : Rho) (σ : L2.St) : Prop := Paired (fun (o : Option W) (p : Option V) => ∀ w, o = some w → ∃ v, p = some v ∧ WR G ι F w v) ρ σ
section
variable {G : Gb} {E : XK} {ι ι' ι1 : List Addr} {F H F' H' F1 H1 : Hp} {S : Sto} {ρ ρ' : Rho} {σ : L2.St}
theorem ER.le (l : Le ι F H ι' F' H') (e : ER G ι F ρ σ) : ER G ι' F' ρ σ := Paired.mapP e fun _ _ r w h => by
  obtain ⟨v, h1, h2⟩ := r w h
  exact ⟨v, h1, h2.le l⟩
theorem ER.set (e : ER G ι F ρ σ) (i : Nat) {w : W} {v : V} (r : WR G ι F w v) : ER G ι F (ρ.set i (some w)) (σ.set i (some v)) := pset (fun w' h => by cases h; exact ⟨v, rfl, r⟩) i e
theorem ER.get (e : ER G ι F ρ σ) {i : Nat} {w : W} (h : ρ[i]? = some (some w)) : ∃ v, σ[i]? = some (some v) ∧ WR G ι F w v := by
  obtain ⟨p, h1, h2⟩ := pget e h
  obtain ⟨v, rfl, h3⟩ := h2 w rfl
  exact ⟨v, h1, h3⟩
theorem ER.wipe (e : ER G ι F ρ σ) : ∀ vs : List Nat, ER G ι F (wipeW ρ vs) (L2.wipe σ vs)
  | [] => e
  | v :: vs => pset (fun w' h => by cases h) v (ER.wipe e vs)
theorem wipe_set {i : Nat} {x : Option V} : ∀ {vs : List Nat} {σ : L2.St}, i ∈ vs → L2.wipe (σ.set i x) vs = L2.wipe σ vs
  | v :: vs, σ, h => by
    unfold L2.wipe
    by_cases hi : i ∈ vs
    · rw [wipe_set hi]
    · have e : v = i := by
        rcases List.mem_cons.mp h with h | h
        · exact h.symm
        · exact absurd h hi
      subst e
      have comm : ∀ {ws : List Nat} {σ : L2.St}, v ∉ ws → L2.wipe (σ.set v x) ws = (L2.wipe σ ws).set v x := by
        intro ws
        induction ws with
        | nil => intro σ _; rfl
        | cons u us ih =>
          intro σ hu
          unfold L2.wipe
          rw [ih (fun z => hu (List.mem_cons_of_mem _ z)), List.set_comm]
          exact fun z => hu (by rw [z]; exact List.mem_cons_self)
      rw [comm hi, List.set_set]
theorem wipe_idem : ∀ (vs : List Nat) {σ : L2.St}, L2.wipe (L2.wipe σ vs) vs = L2.wipe σ vs
  | [], _ => rfl
  | v :: vs, σ => by
    show L2.wipe ((L2.wipe σ vs).set v none) (v :: vs) = (L2.wipe σ vs).set v none
    rw [wipe_set List.mem_cons_self]
    show (L2.wipe (L2.wipe σ vs) vs).set v none = _
    rw [wipe_idem vs]
/-! ## heaps: a thing that is nobody's, a thing taken over -/
theorem GoodS.other {D : Addr} {u : HO} (g : GoodS G ι F S H) (hd : D ∉ ι) (hf : F D = none) : GoodS G ι F S (upd H D u) := by
  refine ⟨fun a o h => ?_, g.len, g.nd, fun n o a h1 h2 => ?_, fun a ha => ?_⟩
  · rw [upd_ne (ne_of_none h hf)]; exact g.ex a o h
  · have z : a ≠ D := fun z => hd (by rw [← z]; exact List.mem_of_getElem? h2)
    exact (g.obj n o a h1 h2).up (List.prefix_refl _) (fun _ _ h => h) id (fun v h => by rw [upd_ne z]; exact h)
  · rw [upd_ne (fun z => hd (by rw [← z]; exact ha))]; exact g.fr a ha
theorem Le.other {D : Addr} {u : HO} (l : Le ι1 F1 H1 ι F H) (h1 : H1 D = none) : Le ι1 F1 H1 ι F (upd H D u) where
  pre := l.pre
  ex := l.ex
  dom := fun a h => by
    rw [upd_ne (fun z => h (by rw [z]; exact h1))]; exact l.dom a h
  keep := fun a o n h => by
    rw [upd_ne (ne_of_none h h1)]; exact l.keep a o n h
  newF := l.newF
  newL := l.newL
theorem GoodS.free (g : GoodS G ι F S H) {p : Addr} (hp : H p = none) : p ∉ ι ∧ F p = none := by
  refine ⟨fun z => g.fr p z hp, ?_⟩
  cases q : F p with
  | none => rfl
  | some o => rw [g.ex p o q] at hp; cases hp
theorem adopt_ok {m : Bool} {ws : List W} {xs : List V} {Q : VK} {D : Addr} (g : GoodS G ι F S H) (l : Le ι1 F1 H1 ι F H) (h1 : H1 D = none) (hd : D ∉ ι) (hf : F D = none) (hD : H D = some (.lst xs)) (r : WRs G ι F ws xs) (hz : xs.length ≤ sizeLine)
    (h : Post G (RE G) E ι1 F1 H1 (mkL m ws S) Q) : Q (.ref D) H := by
  have ne : ∀ a ∈ ι, a ≠ D := fun a ha z => hd (by rw [← z]; exact ha)
  have obj : Post G (RE G) E ι1 F1 H1 (.ok (.ref S.length) (S ++ [.lst ws])) Q → Q (.ref D) H := fun h => by
    have pre : ι <+: ι ++ [D] := List.prefix_append _ _
    refine h (ι ++ [D]) F H (.ref D) ⟨l.pre.trans pre, l.ex, l.dom, l.keep, l.newF, fun a ha hn => ?_⟩ ⟨g.ex, by simp [g.len], ?_, fun n o' a e1 e2 => ?_, fun a ha => ?_⟩ ⟨D, by rw [← g.len]; simp, rfl⟩
    · rcases List.mem_append.mp ha with z | z
      · exact l.newL a z hn
      · simp at z; subst z; exact h1
    · rw [List.nodup_append]
      exact ⟨g.nd, by simp, fun a ha b hb => by simp at hb; subst hb; exact ne a ha⟩
    · by_cases hn : n < S.length
      · rw [List.getElem?_append_left hn] at e1
        rw [List.getElem?_append_left (by rw [g.len]; exact hn)] at e2
        exact (g.obj n o' a e1 e2).up pre (fun _ _ h => h) id (fun _ h => h)
      · rw [List.getElem?_append_right (by omega)] at e1
        rw [List.getElem?_append_right (by rw [g.len]; omega)] at e2
        have e : n - S.length = 0 := by
          have := (List.getElem?_eq_some_iff.mp e1).1
          simp at this; omega
        rw [e] at e1
        rw [g.len, e] at e2
        simp at e1 e2
        subst e1 e2
        exact ⟨hf, xs, hD, hz, r.up pre fun _ _ h => h⟩
    · rcases List.mem_append.mp ha with z | z
      · exact g.fr a z
      · simp at z; subst z; rw [hD]; exact fun q => by cases q
  unfold mkL at h
  split at h
  · exact obj h
  · split at h
    · rename_i ds e
      have ex : Ex F (upd F D (.lst xs)) := Ex.new hf
      rw [allD_eq e] at r
      refine h ι (upd F D (.lst xs)) H (.ref D) ⟨l.pre, fun a o h => ex a o (l.ex a o h), l.dom, l.keep, fun a hn hF hH => ?_, l.newL⟩ ⟨fun a o h => ?_, g.len, g.nd, fun n o a e1 e2 => ?_, g.fr⟩ (At.lst (.inl (.inl upd_same)) hz (AtL.mono ex _ (wrs_at r)))
      · rw [upd_ne (fun z => hH (by rw [z]; exact h1))]; exact l.newF a hn hF hH
      · by_cases z : a = D
        · subst z; rw [upd_same] at h; cases h; exact hD
        · rw [upd_ne z] at h; exact g.ex a o h
      · have z := ne a (List.mem_of_getElem? e2)
        exact (g.obj n o a e1 e2).up (List.prefix_refl _) ex (fun h => by rw [upd_ne z]; exact h) (fun v h => h)
    · exact obj h
/-! ## what is walked -/
def SrcR (G : Gb) (ι : List Addr) (F : Hp) : Src → It → Prop
  | .lst w, J => ∃ a, WR G ι F w (.ref a) ∧ J = Itl G.K a
  | .tup w, J => ∃ a, WR G ι F w (.ref a) ∧ J = Itt G.K a
  | .rng lo n, J => J = Itr lo n
  | .enum w, J => ∃ a, WR G ι F w (.ref a) ∧ J = Ite G.K a
  | .zip x y, J => ∃ a b, WR G ι F x (.ref a) ∧ WR G ι F y (.ref b) ∧ J = Itz G.K a b
theorem SrcR.le {s : Src} {J : It} (l : Le ι F H ι' F' H') (r : SrcR G ι F s J) : SrcR G ι' F' s J := by
  cases s with
  | lst w => obtain ⟨a, h1, h2⟩ := r; exact ⟨a, h1.le l, h2⟩
  | tup w => obtain ⟨a, h1, h2⟩ := r; exact ⟨a, h1.le l, h2⟩
  | rng lo n => exact r
  | enum w => obtain ⟨a, h1, h2⟩ := r; exact ⟨a, h1.le l, h2⟩
  | zip x y => obtain ⟨a, b, h1, h2, h3⟩ := r; exact ⟨a, b, h1.le l, h2.le l, h3⟩
def ItemR (G : Gb) (ι : List Addr) (F H : Hp) (it : IW) (x : V) (H' : Hp) : Prop :=
  match it with
  | .one w => H' = H ∧ WR G ι F w x
  | .two w1 w2 => ∃ T x1 x2, x = .ref T ∧ H T = none ∧ H' = upd H T (.tup [x1, x2]) ∧ WR G ι F w1 x1 ∧ WR G ι F w2 x2
theorem item_stop {i : Nat} {s : Src} {J : It} (g : GoodS G ι F S H) (r : SrcR G ι F s J) (e : itemAt S i s = some none) : J.stop i H := by
  cases s with
  | lst w =>
    obtain ⟨a, h1, rfl⟩ := r
    simp only [itemAt, Option.map_eq_some_iff] at e
    obtain ⟨l, e1, e2⟩ := e
    obtain ⟨a', xs, h, q, z, p⟩ := seqL_ok g h1 e1
    cases h
    rw [Option.map_eq_none_iff, List.getElem?_eq_none_iff, p.length] at e2
    exact ⟨xs, q, e2⟩
  | tup w =>
    obtain ⟨a, h1, rfl⟩ := r
    simp only [itemAt, Option.map_eq_some_iff] at e
    obtain ⟨l, e1, e2⟩ := e
    obtain ⟨a', xs, h, q, z, p⟩ := seqT_ok g h1 e1
    cases h
    rw [Option.map_eq_none_iff, List.getElem?_eq_none_iff, p.length] at e2
    exact ⟨xs, q, e2⟩
  | rng lo n =>
    cases r
    simp only [itemAt, Option.some.injEq] at e
    split at e
    · cases e
    · show n ≤ i
      omega
  | enum w =>
    obtain ⟨a, h1, rfl⟩ := r
    simp only [itemAt, Option.map_eq_some_iff] at e
    obtain ⟨l, e1, e2⟩ := e
    obtain ⟨a', xs, h, q, z, p⟩ := seqL_ok g h1 e1
    cases h
    rw [Option.map_eq_none_iff, List.getElem?_eq_none_iff, p.length] at e2
    exact ⟨xs, q, e2⟩
  | zip x y =>
    obtain ⟨a, b, h1, h2, rfl⟩ := r
    simp only [itemAt] at e
    split at e
    · rename_i l r e1 e2
      obtain ⟨a', xs, h, q, z, p⟩ := seqL_ok g h1 e1
      cases h
      obtain ⟨b', ys, h, q', z', p'⟩ := seqL_ok g h2 e2
      cases h
      refine ⟨xs, ys, q, q', ?_⟩
      simp only [Option.some.injEq] at e
      split at e
      · cases e
      · rename_i hn
        rw [← p.length, ← p'.length]
        by_cases c1 : l.length ≤ i
        · exact .inl c1
        · by_cases c2 : r.length ≤ i
          · exact .inr c2
          · exact (hn _ _ (List.getElem?_eq_getElem (by omega)) (List.getElem?_eq_getElem (by omega))).elim
    · cases e
theorem item_go {i : Nat} {s : Src} {J : It} {it : IW} (g : GoodS G ι F S H) (r : SrcR G ι F s J) (e : itemAt S i s = some (some it)) : J.go i H ∧ ∀ x H', J.yld i H x H' → ItemR G ι F H it x H' := by
  cases s with
  | lst w =>
    obtain ⟨a, h1, rfl⟩ := r
    simp only [itemAt, Option.map_eq_some_iff] at e
    obtain ⟨l, e1, w', e2, rfl⟩ := e
    obtain ⟨a', xs, h, q, z, p⟩ := seqL_ok g h1 e1
    cases h
    obtain ⟨v, e3, e4⟩ := pget p e2
    refine ⟨⟨xs, v, q, e3⟩, fun x H' y => ⟨y.1, ?_⟩⟩
    have := y.2 xs q
    rw [e3] at this
    cases this
    exact e4
  | tup w =>
    obtain ⟨a, h1, rfl⟩ := r
    simp only [itemAt, Option.map_eq_some_iff] at e
    obtain ⟨l, e1, w', e2, rfl⟩ := e
    obtain ⟨a', xs, h, q, z, p⟩ := seqT_ok g h1 e1
    cases h
    obtain ⟨v, e3, e4⟩ := pget p e2
    refine ⟨⟨xs, v, q, e3⟩, fun x H' y => ⟨y.1, ?_⟩⟩
    have := y.2 xs q
    rw [e3] at this
    cases this
    exact e4
  | rng lo n =>
    cases r
    simp only [itemAt, Option.some.injEq] at e
    split at e
    · cases e
      refine ⟨by assumption, fun x H' y => ⟨y.1, ?_⟩⟩
      rw [y.2]
      exact At.int _
    · cases e
  | enum w =>
    obtain ⟨a, h1, rfl⟩ := r
    simp only [itemAt, Option.map_eq_some_iff] at e
    obtain ⟨l, e1, w', e2, rfl⟩ := e
    obtain ⟨a', xs, h, q, z, p⟩ := seqL_ok g h1 e1
    cases h
    obtain ⟨v, e3, e4⟩ := pget p e2
    refine ⟨⟨xs, v, q, e3⟩, fun x H' y => ?_⟩
    obtain ⟨T, x', y1, y2, y3, y4⟩ := y
    have := y4 xs q
    rw [e3] at this
    cases this
    exact ⟨T, _, _, y1, y2, y3, At.int _, e4⟩
  | zip x y =>
    obtain ⟨a, b, h1, h2, rfl⟩ := r
    simp only [itemAt] at e
    split at e
    · rename_i l r e1 e2
      obtain ⟨a', xs, h, q, z, p⟩ := seqL_ok g h1 e1
      cases h
      obtain ⟨b', ys, h, q', z', p'⟩ := seqL_ok g h2 e2
      cases h
      simp only [Option.some.injEq] at e
      split at e
      · rename_i wa wb g1 g2
        cases e
        obtain ⟨v, e3, e4⟩ := pget p g1
        obtain ⟨v', e3', e4'⟩ := pget p' g2
        refine ⟨⟨xs, ys, v, v', q, q', e3, e3'⟩, fun x H' y => ?_⟩
        obtain ⟨T, x', z', y1, y2, y3, y4, y5⟩ := y
        have := y4 xs q
        rw [e3] at this
        cases this
        have := y5 ys q'
        rw [e3'] at this
        cases this
        exact ⟨T, _, _, y1, y2, y3, e4, e4'⟩
      · cases e
    · cases e
theorem sets_ok {P : L2.St → Hp → Prop} : ∀ {is : List Nat} {ws : List W} {vs : List V} {ρ ρ' : Rho} {σ : L2.St}, setIs is ws ρ = some ρ' → WRs G ι F ws vs → ER G ι F ρ σ →
    (∀ σ', ER G ι F ρ' σ' → (∀ own : List Nat, (is.all fun i => decide (i ∈ own)) = true → L2.wipe σ' own = L2.wipe σ own) → P σ' H) → rdTgs is vs σ H P ∧ vs.length = is.length
  | [], [], _, ρ, ρ', σ, e, .nil, r, k => by
    cases e
    exact ⟨⟨rfl, k σ r fun _ _ => rfl⟩, rfl⟩
  | i :: is, w :: ws, _, ρ, ρ', σ, e, .cons h t, r, k => by
    have e' : setIs is ws (ρ.set i (some w)) = some ρ' := e
    have z := sets_ok (P := P) e' t (r.set i h) (fun σ' r' q => k σ' r' fun own ho => by
      rw [List.all_cons, Bool.and_eq_true] at ho
      rw [q own ho.2, wipe_set (of_decide_eq_true ho.1)])
    exact ⟨⟨_, _, rfl, z.1⟩, by rw [List.length_cons, List.length_cons, z.2]⟩
  | [], _ :: _, _, _, _, _, e, _, _, _ => by cases e
  | _ :: _, [], _, _, _, _, e, _, _, _ => by cases e
theorem bind_ok {tg : MT} {it : IW} {x : V} {P : L2.St → Hp → Prop} (g : GoodS G ι F S H) (r : ItemR G ι F H it x H') (e : bindT S tg it ρ = some ρ') (er : ER G ι F ρ σ)
    (k : ∀ σ', ER G ι F ρ' σ' → GoodS G ι F S H' → Le ι F H ι F H' → (∀ own, tgIn tg own = true → L2.wipe σ' own = L2.wipe σ own) → P σ' H') : rdTg G.K tg x σ H' P := by
  unfold bindT at e
  split at e
  · rename_i i w
    cases e
    obtain ⟨rfl, h⟩ := r
    exact k _ (er.set i h) g (Le.refl ..) fun own ho => wipe_set (of_decide_eq_true ho)
  · rename_i is x1 x2
    obtain ⟨T, v1, v2, rfl, hT, rfl, q1, q2⟩ := r
    obtain ⟨f1, f2⟩ := g.free hT
    have g' := g.other (u := .tup [v1, v2]) f1 f2
    have l' := (Le.refl ι F H).other (u := .tup [v1, v2]) hT
    obtain ⟨z1, z2⟩ := sets_ok (H := upd H T (.tup [v1, v2])) (P := P) e (.cons q1 (.cons q2 .nil)) er (fun σ' r' q => k σ' r' g' l' q)
    exact ⟨T, [v1, v2], rfl, .inl (.inl upd_same), z2, z1⟩
  · rename_i is w
    obtain ⟨rfl, h⟩ := r
    split at e
    · rename_i ws hs
      obtain ⟨a, xs, rfl, q, z, p⟩ := seqT_ok g h hs
      obtain ⟨z1, z2⟩ := sets_ok (P := P) e p er (fun σ' r' q => k σ' r' g (Le.refl ..) q)
      exact ⟨a, xs, rfl, q, z2, z1⟩
    · cases e
  · cases e
end
end MP
namespace MP
open PySem L2 PyProof.Rows PySem.Spec
abbrev W0 : WX := fun _ _ _ _ => False
/-- a reading keeps what the reckoner reckons -/
def Snd {α β : Type} (G : Gv) (rel : List Addr → Hp → α → β → Prop) (Wx : WX) (t : L2.St → Hp → (β → Hp → Prop) → Prop) (ev : Rho → Sto → R α) : Prop :=
  ∀ (ι : List Addr) (F : Hp) (S : Sto) (H : Hp) (ρ : Rho) (σ : L2.St) (Q : β → Hp → Prop), GoodS G ι F S H → ER G ι F ρ σ → Post G rel (WE Wx σ) ι F H (ev ρ S) Q → t σ H Q
/-- calls keep what the reckoner reckons; the constants are what they are -/
structure Glue (G : Gv) (Fv : Nat → List W → Sto → R W) (gd : Gd) : Prop where
  fn : ∀ f ws vs ι F S H Q E, GoodS G ι F S H → WRs G ι F ws vs → Post G (RE G) E ι F H (Fv f ws S) Q → G.sp f vs H Q E
  gl : ∀ i ι F, WR G ι F (gd.v i) (G.gv i)
  gd : GdOk G.toGb gd
structure AllE (G : Gv) (Fv : Nat → List W → Sto → R W) (gd : Gd) (n : Nat) : Prop where
  e : ∀ m : ME, sizeOf m < n → ∀ Wx, Snd G (RE G) Wx (rdE G Wx m) (evE Fv gd m)
  es : ∀ m : MEs, sizeOf m < n → ∀ Wx, Snd G (REs G) Wx (rdEs G Wx m) (evEs Fv gd m)
  o : ∀ m : MO, sizeOf m < n → ∀ Wx, Snd G REq Wx (rdO G Wx m) (evO Fv gd m)
  f : ∀ m : MO, sizeOf m < n → ∀ Wx, Snd G REq Wx (rdIf G Wx m) (evIf Fv gd m)
  t : ∀ m : ME, sizeOf m < n → ∀ Wx, Snd G REq Wx (rdT G Wx m) (evT Fv gd m)
section
variable {G : Gv} {Fv : Nat → List W → Sto → R W} {gd : Gd} {n : Nat}
theorem tru_post {E : XK} {ι : List Addr} {F H : Hp} {S : Sto} {x : W} {v : V} {Q : Bool → Hp → Prop} (g : GoodS G ι F S H) (r : WR G ι F x v) (h : Post G REq E ι F H (match tru S x with | some k => (.ok k S : R Bool) | none => .bad) Q) : ∃ k, TruV G.K v H k ∧ Q k H := by
  split at h
  · rename_i k e
    exact ⟨k, tru_ok g r e, Post.here h g rfl⟩
  · exact h.elim
theorem snd_tru {Wx : WX} {t : TE} {ev : Rho → Sto → R W} (h : Snd G (RE G) Wx t ev) : Snd G REq Wx (tTru G.K t) (fun ρ S => (ev ρ S).bind fun w S => match tru S w with | some k => .ok k S | none => .bad) := by
  intro ι F S H ρ σ Q g e q
  exact h ι F S H ρ σ _ g e (q.bind fun w S1 ι1 F1 H1 v l1 g1 r1 _ h1 => tru_post g1 r1 h1)
theorem snd_bin {Wx : WX} {ta tb : TE} {ea eb : Rho → Sto → R W} {r : R2} {f : W → W → Sto → R W} (ha : Snd G (RE G) Wx ta ea) (hb : Snd G (RE G) Wx tb eb)
    (hr : ∀ ι F S H x y v u Q E, GoodS G ι F S H → WR G ι F x v → WR G ι F y u → Post G (RE G) E ι F H (f x y S) Q → r v u H Q) :
    Snd G (RE G) Wx (tOp r ta tb) (fun ρ S => (ea ρ S).bind fun x S => (eb ρ S).bind fun y S => f x y S) := by
  intro ι F S H ρ σ Q g e q
  refine ha ι F S H ρ σ _ g e (q.bind fun x S1 ι1 F1 H1 v l1 g1 r1 _ h1 => ?_)
  refine hb ι1 F1 S1 H1 ρ σ _ g1 (e.le l1) (h1.bind fun y S2 ι2 F2 H2 u l2 g2 r2 _ h2 => ?_)
  exact hr _ _ _ _ _ _ _ _ _ _ g2 (r1.le l2) r2 h2
theorem post_tt {E : XK} {ι : List Addr} {F H : Hp} {S : Sto} {w : W} {v : V} {Q : Bool → Hp → Prop} (g : GoodS G ι F S H) (r : WR G ι F w v) (h : Post G REq E ι F H (match w with | .d (.bool k) => (.ok k S : R Bool) | _ => .bad) Q) : ∃ k, v = .bl k ∧ Q k H := by
  split at h
  · cases inv_bl r
    exact ⟨_, rfl, Post.here h g rfl⟩
  · exact h.elim
theorem snd_test {Wx : WX} {t : TE} {ev : Rho → Sto → R W} (h : Snd G (RE G) Wx t ev) : Snd G REq Wx (tTest t) (fun ρ S => (ev ρ S).bind fun w S => match w with | .d (.bool k) => .ok k S | _ => .bad) := by
  intro ι F S H ρ σ Q g e q
  exact h ι F S H ρ σ _ g e (q.bind fun w S1 ι1 F1 H1 v l1 g1 r1 _ h1 => post_tt g1 r1 h1)
theorem bind_assoc {α β γ : Type} (r : R α) (f : α → Sto → R β) (g : β → Sto → R γ) : (r.bind f).bind g = r.bind fun a S => (f a S).bind g := by cases r <;> rfl
theorem snd_chain {Wx : WX} {ta tb tc : TE} {ea eb ec : Rho → Sto → R W} {o o2 : Op2} (ha : Snd G (RE G) Wx ta ea) (hb : Snd G (RE G) Wx tb eb) (hc : Snd G (RE G) Wx tc ec) :
    Snd G (RE G) Wx (tChain (r2 G.K o) (r2 G.K o2) ta tb tc) (fun ρ S => (ea ρ S).bind fun x S => (eb ρ S).bind fun y S => (op2 o false x y S).bind fun k S => match k with
    | .d (.bool true) => (ec ρ S).bind fun z S => op2 o2 false y z S
    | .d (.bool false) => .ok (.d (.bool false)) S
    | _ => .bad) := by
  intro ι F S H ρ σ Q g e q
  refine ha ι F S H ρ σ _ g e (q.bind fun x S1 ι1 F1 H1 v l1 g1 r1 _ h1 => ?_)
  refine hb ι1 F1 S1 H1 ρ σ _ g1 (e.le l1) (h1.bind fun y S2 ι2 F2 H2 u l2 g2 r2 _ h2 => ?_)
  refine op2_ok g2 (r1.le l2) r2 (h2.bind fun k S3 ι3 F3 H3 z l3 g3 r3 _ h3 => ?_)
  split at h3
  · cases inv_bl r3
    refine ⟨true, rfl, ?_⟩
    rw [if_pos rfl]
    refine hc ι3 F3 S3 H3 ρ σ _ g3 (((e.le l1).le l2).le l3) (h3.bind fun z S4 ι4 F4 H4 z' l4 g4 r4 _ h4 => ?_)
    exact op2_ok g4 ((r2.le l3).le l4) r4 h4
  · cases inv_bl r3
    exact ⟨false, rfl, by rw [if_neg Bool.false_ne_true]; exact hereB h3 g3⟩
  · exact h3.elim
def rVal (K : PySem.W.Frag) : V → Hp → VK → Prop := fun x H1 Q => ∃ a C d v, x = .ref a ∧ H1 a = some (exo a C (some d)) ∧ H1 d = some (exd d [("value", v)]) ∧ XfC K C ∧ PySem.W.findIn K (.ref C) "value" = some none ∧ Q v H1
theorem val_ok (Z : Glue G Fv gd) {E : XK} {ι : List Addr} {F H : Hp} {S : Sto} {x : W} {v : V} {Q : VK} (g : GoodS G ι F S H) (r : WR G ι F x v) (h : Post G (RE G) E ι F H (valW gd x S) Q) : rVal G.K v H Q := by
  unfold valW at h
  split at h
  · rename_i c w
    split at h
    · rename_i hc
      rw [Bool.and_eq_true] at hc
      have hv : G.hv c = true := by rw [← Z.gd.hv]; exact hc.1
      obtain ⟨a, rfl, q⟩ := r
      rw [if_pos hv] at q
      obtain ⟨d, y, h1, h2, h3⟩ := q
      obtain ⟨e1, e2, _⟩ := Z.gd.ex c hc.2
      obtain ⟨e3, e4⟩ := e2 hv
      exact ⟨a, _, d, y, rfl, g.ex _ _ h1, g.ex _ _ h2, e3, e4, Post.here h g h3⟩
    · exact h.elim
  · exact h.elim
/-! ### the step -/
theorem es_step (A : AllE G Fv gd n) (m : MEs) (hs : sizeOf m < n + 1) (Wx : WX) : Snd G (REs G) Wx (rdEs G Wx m) (evEs Fv gd m) := by
  intro ι F S H ρ σ Q g e q
  cases m with
  | nil => exact Post.here q g .nil
  | cons a r =>
    simp at hs
    unfold evEs at q
    refine A.e a (by omega) Wx ι F S H ρ σ _ g e (q.bind fun x S1 ι1 F1 H1 v l1 g1 r1 _ h1 => ?_)
    refine A.es r (by omega) Wx ι1 F1 S1 H1 ρ σ _ g1 (e.le l1) (h1.bind fun l S2 ι2 F2 H2 vs l2 g2 r2 _ h2 => ?_)
    exact Post.here h2 g2 (.cons (r1.le l2) r2)
theorem o_step (A : AllE G Fv gd n) (m : MO) (hs : sizeOf m < n + 1) (Wx : WX) : Snd G REq Wx (rdO G Wx m) (evO Fv gd m) := by
  intro ι F S H ρ σ Q g e q
  cases m with
  | none => exact Post.here q g rfl
  | some a =>
    simp at hs
    unfold evO at q
    refine A.e a (by omega) Wx ι F S H ρ σ _ g e (q.bind fun x S1 ι1 F1 H1 v l1 g1 r1 _ h1 => ?_)
    split at h1
    · cases inv_int r1
      exact ⟨_, rfl, Post.here h1 g1 rfl⟩
    · exact h1.elim
theorem f_step (A : AllE G Fv gd n) (m : MO) (hs : sizeOf m < n + 1) (Wx : WX) : Snd G REq Wx (rdIf G Wx m) (evIf Fv gd m) := by
  intro ι F S H ρ σ Q g e q
  cases m with
  | none => exact Post.here q g rfl
  | some a =>
    simp at hs
    exact A.t a (by omega) Wx ι F S H ρ σ Q g e q
theorem t_step (Z : Glue G Fv gd) (A : AllE G Fv gd n) (m : ME) (hs : sizeOf m < n + 1) (Wx : WX) : Snd G REq Wx (rdT G Wx m) (evT Fv gd m) := by
  intro ι F S H ρ σ Q g e q
  cases m with
  | and a b =>
    simp at hs
    unfold evT at q
    refine A.t a (by omega) Wx ι F S H ρ σ _ g e (q.bind fun k S1 ι1 F1 H1 k' l1 g1 r1 _ h1 => ?_)
    cases (show k = k' from r1)
    cases k with
    | true => rw [if_pos rfl] at h1 ⊢; exact A.t b (by omega) Wx ι1 F1 S1 H1 ρ σ _ g1 (e.le l1) h1
    | false => rw [if_neg Bool.false_ne_true] at h1 ⊢; exact Post.here h1 g1 rfl
  | or a b =>
    simp at hs
    unfold evT at q
    refine A.t a (by omega) Wx ι F S H ρ σ _ g e (q.bind fun k S1 ι1 F1 H1 k' l1 g1 r1 _ h1 => ?_)
    cases (show k = k' from r1)
    cases k with
    | true => rw [if_pos rfl] at h1 ⊢; exact Post.here h1 g1 rfl
    | false => rw [if_neg Bool.false_ne_true] at h1 ⊢; exact A.t b (by omega) Wx ι1 F1 S1 H1 ρ σ _ g1 (e.le l1) h1
  | not a =>
    simp at hs
    unfold evT at q
    refine A.t a (by omega) Wx ι F S H ρ σ _ g e (q.bind fun k S1 ι1 F1 H1 k' l1 g1 r1 _ h1 => ?_)
    cases (show k = k' from r1)
    exact Post.here h1 g1 rfl
  | op o mm a b =>
    simp at hs
    have hb := snd_bin (A.e a (by omega) Wx) (A.e b (by omega) Wx) (r := r2 G.K o) (f := op2 o mm) (fun ι F S H x y v u Q E g r1 r2 h => op2_ok g r1 r2 h)
    unfold evT at q
    unfold rdT
    split
    · rename_i hc
      simp only [hc, if_true] at q
      refine snd_test hb ι F S H ρ σ Q g e ?_
      simp only [bind_assoc]
      exact q
    · rename_i hc
      simp only [hc] at q
      refine snd_tru hb ι F S H ρ σ Q g e ?_
      simp only [bind_assoc]
      exact q
  | chain o o2 a b c =>
    simp at hs
    unfold evT at q
    unfold rdT
    refine snd_test (snd_chain (A.e a (by omega) Wx) (A.e b (by omega) Wx) (A.e c (by omega) Wx)) ι F S H ρ σ Q g e ?_
    refine cast (congrArg (fun r => Post G REq (WE Wx σ) ι F H r Q) ?_) q
    simp only [bind_assoc]
    congr 1; funext x S; congr 1; funext y S; congr 1; funext k S
    cases k with
    | d x => cases x with
      | bool b => cases b with
        | true => exact (bind_assoc _ _ _).symm
        | false => rfl
      | _ => rfl
    | _ => rfl
  | var i =>
    unfold evT at q
    split at q
    · rename_i w hw
      obtain ⟨v, h1, h2⟩ := e.get hw
      exact ⟨v, h1, tru_post g h2 q⟩
    · exact q.elim
  | cst c =>
    have r : WR G ι F (.d c.D) c.v := by cases c <;> constructor
    exact tru_post g r q
  | glb i => exact tru_post g (Z.gl i ι F) q
  | ix a b =>
    simp at hs
    unfold evT at q
    refine snd_tru (snd_bin (A.e a (by omega) Wx) (A.e b (by omega) Wx) (r := rIxA G.K) (f := ixW) (fun ι F S H x y v u Q E g r1 r2 h => ix_ok g r1 r2 h)) ι F S H ρ σ Q g e ?_
    simp only [bind_assoc]
    exact q
  | bi b mm as =>
    simp at hs
    unfold evT at q
    refine A.es as (by omega) Wx ι F S H ρ σ _ g e (q.bind fun ws S1 ι1 F1 H1 vs l1 g1 r1 _ h1 => ?_)
    exact bi_okW Z.gd g1 r1 (h1.bind fun w S2 ι2 F2 H2 v l2 g2 r2 _ h2 => tru_post g2 r2 h2)
  | call f as =>
    simp at hs
    unfold evT at q
    refine A.es as (by omega) Wx ι F S H ρ σ _ g e (q.bind fun ws S1 ι1 F1 H1 vs l1 g1 r1 _ h1 => ?_)
    exact Z.fn _ _ _ _ _ _ _ _ _ g1 r1 (h1.bind fun w S2 ι2 F2 H2 v l2 g2 r2 _ h2 => tru_post g2 r2 h2)
  | val a =>
    simp at hs
    unfold evT at q
    rw [bind_assoc] at q
    refine A.e a (by omega) Wx ι F S H ρ σ _ g e (q.bind fun x S1 ι1 F1 H1 v l1 g1 r1 _ h1 => ?_)
    exact val_ok (E := WE Wx σ) Z g1 r1 (h1.bind (rel := RE G.toGb) fun w S2 ι2 F2 H2 v l2 g2 r2 _ h2 => tru_post g2 r2 h2)
  | mk c as kw => cases as with
    | nil => exact q.elim
    | cons a r => exact q.elim
  | eqX a b => exact q.elim
  | ife c a b => exact q.elim
  | ty t => exact q.elim
  | neg a => exact q.elim
  | tup es => exact q.elim
  | lst m es => exact q.elim
  | sl a lo hi => exact q.elim
  | mt k o as => exact q.elim
  | bits a => exact q.elim
  | comp m elt tg k src cond own => exact q.elim
end
end MP
namespace MP
open PySem L2 PyProof.Rows PySem.Spec
section
variable {G : Gv} {Fv : Nat → List W → Sto → R W} {gd : Gd} {n : Nat}
/-- what is wanted of the walked things' values -/
def PI0 (K : PySem.W.Frag) (R : It → Hp → Prop) : IK → List V → Hp → Prop
  | .list, [x] => fun H1 => ∃ a, x = .ref a ∧ (∃ xs, SqL K H1 a xs) ∧ R (Itl K a) H1
  | .tup, [x] => fun H1 => ∃ a, x = .ref a ∧ (∃ xs, SqT K H1 a xs) ∧ R (Itt K a) H1
  | .range1, [x] => fun H1 => ∃ j : Int, [x] = [V.int j] ∧ -(2 ^ 62) ≤ j ∧ j < 2 ^ 62 ∧ R (Itr 0 j.toNat) H1
  | .range2, [x, y] => fun H1 => ∃ i j : Int, [x, y] = [V.int i, V.int j] ∧ (-(2 ^ 62) ≤ i ∧ i < 2 ^ 62 ∧ -(2 ^ 62) ≤ j ∧ j < 2 ^ 62) ∧ R (Itr i (j - i).toNat) H1
  | .enum, [x] => fun H1 => ∃ a xs, [x] = [V.ref a] ∧ SqL K H1 a xs ∧ R (Ite K a) H1
  | .zip, [x, y] => fun H1 => ∃ a b xs ys, [x, y] = [V.ref a, V.ref b] ∧ SqL K H1 a xs ∧ SqL K H1 b ys ∧ R (Itz K a b) H1
  | _, _ => fun _ => False
theorem rdI_of {Wx : WX} {k : IK} {src : MEs} {R : It → Hp → Prop} {σ : L2.St} {H : Hp} (hs : shI k src = true) (h : rdEs G Wx src σ H (PI0 G.K R k)) : rdI G Wx k src σ H R := by
  unfold shI at hs
  split at hs
  · exact h
  · exact h
  · exact h
  · exact h
  · exact h
  · exact h
  · cases hs
theorem inRng_ok {n : Int} (h : inRng n = true) : -(2 ^ 62) ≤ n ∧ n < 2 ^ 62 := by
  unfold inRng at h
  simp only [Bool.and_eq_true, decide_eq_true_eq] at h
  omega
theorem src_ok {ι : List Addr} {F H : Hp} {S : Sto} {k : IK} {ws : List W} {vs : List V} {sr : Src} {m : Nat} {R : It → Hp → Prop} (g : GoodS G ι F S H) (r : WRs G ι F ws vs) (e : srcOf k ws S = some (sr, m)) (h : ∀ J, SrcR G ι F sr J → R J H) : PI0 G.K R k vs H := by
  unfold srcOf at e
  split at e
  · obtain ⟨v, rfl, r1⟩ := wrs1 r
    rw [Option.map_eq_some_iff] at e
    obtain ⟨l, e1, e2⟩ := e
    cases e2
    obtain ⟨a, xs, rfl, q, z, p⟩ := seqL_ok g r1 e1
    exact ⟨a, rfl, ⟨xs, q⟩, h _ ⟨a, r1, rfl⟩⟩
  · obtain ⟨v, rfl, r1⟩ := wrs1 r
    rw [Option.map_eq_some_iff] at e
    obtain ⟨l, e1, e2⟩ := e
    cases e2
    obtain ⟨a, xs, rfl, q, z, p⟩ := seqT_ok g r1 e1
    exact ⟨a, rfl, ⟨xs, q⟩, h _ ⟨a, r1, rfl⟩⟩
  · obtain ⟨v, rfl, r1⟩ := wrs1 r
    cases inv_int r1
    split at e
    · rename_i hr
      cases e
      obtain ⟨h1, h2⟩ := inRng_ok hr
      exact ⟨_, rfl, h1, h2, h _ rfl⟩
    · cases e
  · obtain ⟨v, v', rfl, r1, r2⟩ := wrs2 r
    cases inv_int r1; cases inv_int r2
    split at e
    · rename_i hr
      cases e
      rw [Bool.and_eq_true] at hr
      obtain ⟨h1, h2⟩ := inRng_ok hr.1
      obtain ⟨h3, h4⟩ := inRng_ok hr.2
      exact ⟨_, _, rfl, ⟨h1, h2, h3, h4⟩, h _ rfl⟩
    · cases e
  · obtain ⟨v, rfl, r1⟩ := wrs1 r
    rw [Option.map_eq_some_iff] at e
    obtain ⟨l, e1, e2⟩ := e
    cases e2
    obtain ⟨a, xs, rfl, q, z, p⟩ := seqL_ok g r1 e1
    exact ⟨a, xs, rfl, q, h _ ⟨a, r1, rfl⟩⟩
  · obtain ⟨v, v', rfl, r1, r2⟩ := wrs2 r
    split at e
    · rename_i l r e1 e2
      cases e
      obtain ⟨a, xs, rfl, q, z, p⟩ := seqL_ok g r1 e1
      obtain ⟨b, ys, rfl, q', z', p'⟩ := seqL_ok g r2 e2
      exact ⟨a, b, xs, ys, rfl, q, q', h _ ⟨a, b, r1, r2, rfl⟩⟩
    · cases e
  · cases e
/-- the turns of a comprehension -/
theorem comp_ok {ι1 : List Addr} {F1 H1 : Hp} {S1 Sf : Sto} {sr : Src} {J : It} {tg : MT} {cond : MO} {elt : ME} {own : List Nat} {ρ : Rho} {σ : L2.St} {N : Nat} {total : List W} {m : Bool} {E : XK} {Q : VK} {f : IW → Sto → R (Option W)}
    (hf : f = fun it S => match bindT S tg it (wipeW ρ own) with
        | some ρ' => (evIf Fv gd cond ρ' S).bind fun b S => if b then (evE Fv gd elt ρ' S).bind fun w S => .ok (some w) S else .ok none S
        | none => .bad)
    (hc : Snd G REq W0 (rdIf G W0 cond) (evIf Fv gd cond)) (he : Snd G (RE G) W0 (rdE G W0 elt) (evE Fv gd elt)) (hN : N < lim) (ht : tgIn tg own = true)
    (g : GoodS G ι1 F1 S1 H1) (e : ER G ι1 F1 ρ σ) (rs : SrcR G ι1 F1 sr J) (run : compGo sr f (N + 1) 0 S1 = .ok total Sf) (q : Post G (RE G) E ι1 F1 H1 (mkL m total Sf) Q) (D : Addr) (hD : H1 D = none) :
    ∃ Wv : Nat → Nat → Hp → Prop, (∃ m, Wv 0 m (upd H1 D (.lst []))) ∧ ∀ i m H, Wv i m H →
      (J.stop i H ∧ Q (.ref D) H) ∨ (J.go i H ∧ ∃ Nx : Hp → Prop, (∀ H', Nx H' → ∃ m', m' < m ∧ Wv (i + 1) m' H') ∧ ∀ x H', J.yld i H x H' → rdTg G.K tg x (L2.wipe σ own) H' fun σ2 H2 => L2.wipe σ2 own = L2.wipe σ own ∧ rdIf G W0 cond σ2 H2 fun b H3 =>
        if b = true then rdE G W0 elt σ2 H3 fun y H4 => ∃ acc, H4 D = some (.lst acc) ∧ acc.length < sizeLine ∧ Nx (upd H4 D (.lst (acc ++ [y]))) else Nx H3) := by
  let Wv : Nat → Nat → Hp → Prop := fun i fuel H => ∃ ι' F' S' l ys rest, Le ι1 F1 H1 ι' F' H ∧ GoodS G ι' F' S' H ∧ D ∉ ι' ∧ F' D = none ∧ H D = some (.lst ys) ∧ WRs G ι' F' l ys ∧ l.length ≤ i ∧ i + fuel = N + 1 ∧ compGo sr f fuel i S' = .ok rest Sf ∧ l ++ rest = total
  obtain ⟨d1, d2⟩ := g.free hD
  refine ⟨Wv, ⟨N + 1, ι1, F1, S1, [], [], total, (Le.refl _ _ _).other hD, g.other d1 d2, d1, d2, upd_same, .nil, Nat.zero_le _, by omega, run, rfl⟩, ?_⟩
  rintro i fuel H ⟨ι', F', S', l, ys, rest, le, g', n1, n2, hd, r, hl, hi, run', tot⟩
  cases fuel with
  | zero => cases run'
  | succ k =>
    unfold compGo at run'
    split at run'
    · rename_i st
      cases run'
      left
      rw [List.append_nil] at tot
      subst tot
      refine ⟨item_stop g' (rs.le le) st, adopt_ok g' le hD n1 n2 hd r ?_ q⟩
      rw [← r.length]
      exact lim_lt (by omega)
    · rename_i it st
      right
      obtain ⟨go, yl⟩ := item_go g' (rs.le le) st
      refine ⟨go, fun H => Wv (i + 1) k H, fun H' w => ⟨k, Nat.lt_succ_self k, w⟩, fun x H' y => ?_⟩
      have ir := yl x H' y
      split at run'
      · rename_i o S2 ef
        split at run'
        · rename_i l2 S3 er
          cases run'
          rw [hf] at ef
          simp only at ef
          split at ef
          · rename_i ρ' hb
            refine bind_ok g' ir hb ((e.le le).wipe own) fun σ2 er2 g2 le2 wp => ⟨?_, ?_⟩
            · rw [wp own ht, wipe_idem]
            · have hDH : H' D = some (.lst ys) := le2.keep D _ n1 hd
              refine hc ι' F' S' H' ρ' σ2 _ g2 er2 ?_
              cases ec : evIf Fv gd cond ρ' S' with
              | ok b Sb =>
                rw [ec] at ef
                intro ι3 F3 H3 b' le3 g3 hb'
                cases (show b = b' from hb')
                have n13 : D ∉ ι3 := fun z => by rw [le3.newL D z n1] at hDH; cases hDH
                have n23 : F3 D = none := le3.newF D n1 n2 (by rw [hDH]; exact fun z => by cases z)
                have hD3 : H3 D = some (.lst ys) := le3.keep D _ n1 hDH
                have le13 := (le.trans le2).trans le3
                cases b with
                | true =>
                  rw [if_pos rfl]
                  change R.bind (evE Fv gd elt ρ' Sb) (fun w S => R.ok (some w) S) = R.ok o S2 at ef
                  refine he ι3 F3 Sb H3 ρ' σ2 _ g3 (er2.le le3) ?_
                  cases ew : evE Fv gd elt ρ' Sb with
                  | ok w Sw =>
                    rw [ew] at ef
                    cases ef
                    intro ι4 F4 H4 v le4 g4 rw4
                    have n14 : D ∉ ι4 := fun z => by rw [le4.newL D z n13] at hD3; cases hD3
                    have n24 : F4 D = none := le4.newF D n13 n23 (by rw [hD3]; exact fun z => by cases z)
                    have hD4 : H4 D = some (.lst ys) := le4.keep D _ n13 hD3
                    have le14 := le13.trans le4
                    refine ⟨ys, hD4, ?_, ι4, F4, S2, l ++ [w], ys ++ [v], l2, le14.other hD, g4.other n14 n24, n14, n24, upd_same, ?_, ?_, by omega, er, ?_⟩
                    · rw [← r.length]
                      exact Nat.lt_of_lt_of_le (show l.length < lim by omega) lim_le
                    · exact papp (WRs.up (le3.pre.trans le4.pre) (fun a o h => le4.ex a o (le3.ex a o (le2.ex a o h))) r) (.cons rw4 .nil)
                    · rw [List.length_append]; simp; omega
                    · rw [← tot]; simp [consO]
                  | exc c w S => rw [ew] at ef; cases ef
                  | bad => rw [ew] at ef; cases ef
                | false =>
                  rw [if_neg Bool.false_ne_true]
                  cases ef
                  exact ⟨ι3, F3, _, l, ys, l2, le13, g3, n13, n23, hD3, WRs.up le3.pre (fun a o h => le3.ex a o (le2.ex a o h)) r, by omega, by omega, er, by rw [← tot]; rfl⟩
              | exc c w S => rw [ec] at ef; cases ef
              | bad => rw [ec] at ef; cases ef
          · cases ef
        · cases run'
      · cases run'
    · cases run'
/-- an error made: its object is new -/
theorem mk_ok (Z : Glue G Fv gd) (A : AllE G Fv gd n) {c : Nat} {as : MEs} {kw : Bool} (hs : sizeOf as < n + 1) (Wx : WX) {ι : List Addr} {F H : Hp} {S : Sto} {ρ : Rho} {σ : L2.St} {Q : VK} (g : GoodS G ι F S H) (e : ER G ι F ρ σ)
    (q : Post G (fun ι' F' w v => WR G ι' F' w v ∧ ∃ a, v = .ref a ∧ H a = none) (WE Wx σ) ι F H (evE Fv gd (.mk c as kw) ρ S) Q) : rdE G Wx (.mk c as kw) σ H Q := by
  have two : ∀ {ι1 : List Addr} {F1 H1 : Hp} {S1 : Sto} {w : W} {v : V} {a d : Addr}, Le ι F H ι1 F1 H1 → GoodS G ι1 F1 S1 H1 → G.hv c = true → WR G ι1 F1 w v → H1 a = none → H1 d = none → d ≠ a →
      Post G (fun ι' F' w v => WR G ι' F' w v ∧ ∃ a, v = .ref a ∧ H a = none) (WE Wx σ) ι1 F1 H1 (.ok (.exn c w) S1) Q → Q (.ref a) (upd (upd H1 d (exd d [("value", v)])) a (exo a (G.cl c) (some d))) := fun {ι1 F1 H1 S1 w v a d} l1 g1 hv r1 na nd ne h => by
    obtain ⟨g2, l2⟩ := g1.data (u := exd d [("value", v)]) nd
    have na' : upd H1 d (exd d [("value", v)]) a = none := by rw [upd_ne (Ne.symm ne)]; exact na
    obtain ⟨g3, l3⟩ := g2.data (u := exo a (G.cl c) (some d)) na'
    refine h _ _ _ _ (l2.trans l3) g3 ⟨⟨a, rfl, ?_⟩, a, rfl, ?_⟩
    · rw [if_pos hv]
      refine ⟨d, v, upd_same, ?_, (r1.le l2).le l3⟩
      rw [upd_ne ne, upd_same]
    · cases z : H a with
      | none => rfl
      | some o => exact absurd na (l1.dom a (by rw [z]; exact fun q => by cases q))
  cases as with
  | nil =>
    unfold evE at q
    split at q
    · by_cases hv : G.hv c = true
      · unfold rdE
        rw [if_pos hv]
        exact fun a d na nd ne => two (Le.refl ..) g hv (w := .d .none) At.non na nd ne q
      · unfold rdE
        rw [if_neg hv]
        intro a na
        obtain ⟨g3, l3⟩ := g.data (u := exo a (G.cl c) none) na
        refine q _ _ _ _ l3 g3 ⟨⟨a, rfl, ?_⟩, a, rfl, na⟩
        rw [if_neg hv]
        exact upd_same
    · exact q.elim
  | cons b r => cases r with
    | nil =>
      simp at hs
      unfold evE at q
      split at q
      · rename_i hc
        rw [Bool.and_eq_true] at hc
        have hv : G.hv c = true := by rw [← Z.gd.hv]; exact hc.1
        unfold rdE
        rw [if_pos hv]
        refine A.e b (by omega) Wx ι F S H ρ σ _ g e (q.bind fun w S1 ι1 F1 H1 v l1 g1 r1 _ h1 => ?_)
        exact fun a d na nd ne => two l1 g1 hv r1 na nd ne h1
      · exact q.elim
    | cons b' r' => exact q.elim
theorem e_step (Z : Glue G Fv gd) (A : AllE G Fv gd n) (m : ME) (hs : sizeOf m < n + 1) (Wx : WX) : Snd G (RE G) Wx (rdE G Wx m) (evE Fv gd m) := by
  intro ι F S H ρ σ Q g e q
  cases m with
  | var i =>
    unfold evE at q
    split at q
    · rename_i w hw
      obtain ⟨v, h1, h2⟩ := e.get hw
      exact ⟨v, h1, Post.here q g h2⟩
    · exact q.elim
  | cst c => exact Post.here q g (show WR G ι F (.d c.D) c.v by cases c <;> constructor)
  | glb i => exact Post.here q g (Z.gl i ι F)
  | ty t => exact Post.here q g (show WR G ι F (.ty t) (.ty t) from rfl)
  | op o mm a b =>
    simp at hs
    exact snd_bin (A.e a (by omega) Wx) (A.e b (by omega) Wx) (r := r2 G.K o) (f := op2 o mm) (fun ι F S H x y v u Q E g r1 r2 h => op2_ok g r1 r2 h) ι F S H ρ σ Q g e q
  | neg a =>
    simp at hs
    unfold evE at q
    refine A.e a (by omega) Wx ι F S H ρ σ _ g e (q.bind fun x S1 ι1 F1 H1 v l1 g1 r1 _ h1 => ?_)
    split at h1
    · cases inv_int r1
      exact ⟨_, rfl, hereI h1 g1⟩
    · exact h1.elim
  | chain o o2 a b c =>
    simp at hs
    exact snd_chain (A.e a (by omega) Wx) (A.e b (by omega) Wx) (A.e c (by omega) Wx) ι F S H ρ σ Q g e q
  | and a b =>
    simp at hs
    unfold evE at q
    refine A.e a (by omega) Wx ι F S H ρ σ _ g e (q.bind fun x S1 ι1 F1 H1 v l1 g1 r1 _ h1 => ?_)
    split at h1
    · rename_i ht
      refine ⟨true, tru_ok g1 r1 ht, ?_⟩
      rw [if_pos rfl]
      exact A.e b (by omega) Wx ι1 F1 S1 H1 ρ σ _ g1 (e.le l1) h1
    · rename_i ht
      refine ⟨false, tru_ok g1 r1 ht, ?_⟩
      rw [if_neg Bool.false_ne_true]
      exact Post.here h1 g1 r1
    · exact h1.elim
  | or a b =>
    simp at hs
    unfold evE at q
    refine A.e a (by omega) Wx ι F S H ρ σ _ g e (q.bind fun x S1 ι1 F1 H1 v l1 g1 r1 _ h1 => ?_)
    split at h1
    · rename_i ht
      refine ⟨true, tru_ok g1 r1 ht, ?_⟩
      rw [if_pos rfl]
      exact Post.here h1 g1 r1
    · rename_i ht
      refine ⟨false, tru_ok g1 r1 ht, ?_⟩
      rw [if_neg Bool.false_ne_true]
      exact A.e b (by omega) Wx ι1 F1 S1 H1 ρ σ _ g1 (e.le l1) h1
    · exact h1.elim
  | not a =>
    simp at hs
    unfold evE at q
    refine A.e a (by omega) Wx ι F S H ρ σ _ g e (q.bind fun x S1 ι1 F1 H1 v l1 g1 r1 _ h1 => ?_)
    split at h1
    · rename_i k ht
      exact ⟨k, tru_ok g1 r1 ht, hereB h1 g1⟩
    · exact h1.elim
  | ife c a b =>
    simp at hs
    unfold evE at q
    refine A.t c (by omega) Wx ι F S H ρ σ _ g e (q.bind fun k S1 ι1 F1 H1 k' l1 g1 r1 _ h1 => ?_)
    cases (show k = k' from r1)
    cases k with
    | true => rw [if_pos rfl] at h1 ⊢; exact A.e a (by omega) Wx ι1 F1 S1 H1 ρ σ _ g1 (e.le l1) h1
    | false => rw [if_neg Bool.false_ne_true] at h1 ⊢; exact A.e b (by omega) Wx ι1 F1 S1 H1 ρ σ _ g1 (e.le l1) h1
  | tup es =>
    simp at hs
    unfold evE at q
    refine A.es es (by omega) Wx ι F S H ρ σ _ g e (q.bind fun ws S1 ι1 F1 H1 vs l1 g1 r1 _ h1 => ?_)
    split at h1
    · rename_i hz
      have hz' : vs.length ≤ sizeLine := by rw [← r1.length]; exact lim_lt hz
      exact ⟨hz', mkT_ok g1 r1 hz' h1⟩
    · exact h1.elim
  | lst mm es =>
    simp at hs
    unfold evE at q
    refine A.es es (by omega) Wx ι F S H ρ σ _ g e (q.bind fun ws S1 ι1 F1 H1 vs l1 g1 r1 _ h1 => ?_)
    split at h1
    · rename_i hz
      have hz' : vs.length ≤ sizeLine := by rw [← r1.length]; exact lim_lt hz
      exact ⟨hz', mkL_ok g1 r1 hz' h1⟩
    · exact h1.elim
  | ix a b =>
    simp at hs
    exact snd_bin (A.e a (by omega) Wx) (A.e b (by omega) Wx) (r := rIxA G.K) (f := ixW) (fun ι F S H x y v u Q E g r1 r2 h => ix_ok g r1 r2 h) ι F S H ρ σ Q g e q
  | sl a lo hi =>
    simp at hs
    unfold evE at q
    refine A.e a (by omega) Wx ι F S H ρ σ _ g e (q.bind fun x S1 ι1 F1 H1 v l1 g1 r1 _ h1 => ?_)
    refine A.o lo (by omega) Wx ι1 F1 S1 H1 ρ σ _ g1 (e.le l1) (h1.bind fun x2 S2 ι2 F2 H2 v2 l2 g2 r2 _ h2 => ?_)
    refine A.o hi (by omega) Wx ι2 F2 S2 H2 ρ σ _ g2 ((e.le l1).le l2) (h2.bind fun x3 S3 ι3 F3 H3 v3 l3 g3 r3 _ h3 => ?_)
    cases (show x2 = v2 from r2)
    cases (show x3 = v3 from r3)
    exact sl_ok g3 ((r1.le l2).le l3) h3
  | bi b mm as =>
    simp at hs
    unfold evE at q
    refine A.es as (by omega) Wx ι F S H ρ σ _ g e (q.bind fun ws S1 ι1 F1 H1 vs l1 g1 r1 _ h1 => ?_)
    exact bi_okW Z.gd g1 r1 h1
  | mt k o as =>
    simp at hs
    unfold evE at q
    have ty : ∀ {ι : List Addr} {F H : Hp} {S : Sto} {x : W} {v : V}, GoodS G ι F S H → WR G ι F x v → (seqL S x).isSome = true → tyV G.K k.ty v H := fun {ι F H S x v} g r h => by
      obtain ⟨l, hl⟩ := Option.isSome_iff_exists.mp h
      obtain ⟨a, xs, rfl, q, z, p⟩ := seqL_ok g r hl
      have e : k.ty = "list" := by cases k <;> rfl
      rw [e]
      exact .inl ⟨rfl, xs, q⟩
    cases as with
    | nil =>
      refine A.e o (by omega) Wx ι F S H ρ σ _ g e (q.bind fun x S1 ι1 F1 H1 v l1 g1 r1 _ h1 => ?_)
      split at h1
      · rename_i hq
        exact ⟨ty g1 r1 hq, mt_okW g1 r1 .nil h1⟩
      · exact h1.elim
    | cons a as =>
      refine A.e o (by omega) Wx ι F S H ρ σ _ g e (q.bind fun x S1 ι1 F1 H1 v l1 g1 r1 _ h1 => ?_)
      split at h1
      · rename_i hq
        refine ⟨ty g1 r1 hq, ?_⟩
        have hes := A.es (.cons a as) (by simp at hs ⊢; omega) Wx ι1 F1 S1 H1 ρ σ
        refine hes _ g1 (e.le l1) (h1.bind fun ws S2 ι2 F2 H2 vs l2 g2 r2 _ h2 => ?_)
        exact mt_okW g2 (r1.le l2) r2 h2
      · exact h1.elim
  | bits a =>
    simp at hs
    unfold evE at q
    refine A.e a (by omega) Wx ι F S H ρ σ _ g e (q.bind fun x S1 ι1 F1 H1 v l1 g1 r1 _ h1 => ?_)
    split at h1
    · cases inv_int r1
      exact ⟨_, rfl, hereI h1 g1⟩
    · exact h1.elim
  | call f as =>
    simp at hs
    unfold evE at q
    refine A.es as (by omega) Wx ι F S H ρ σ _ g e (q.bind fun ws S1 ι1 F1 H1 vs l1 g1 r1 _ h1 => ?_)
    exact Z.fn _ _ _ _ _ _ _ _ _ g1 r1 h1
  | mk c as kw =>
    simp at hs
    refine mk_ok Z A (by omega) Wx g e (q.mono' fun a S' ι' F' H' v l g r => r.1)
  | val a =>
    simp at hs
    unfold evE at q
    refine A.e a (by omega) Wx ι F S H ρ σ _ g e (q.bind fun x S1 ι1 F1 H1 v l1 g1 r1 _ h1 => ?_)
    exact val_ok Z g1 r1 h1
  | eqX a b =>
    simp at hs
    unfold evE at q
    split at q
    · refine A.e a (by omega) Wx ι F S H ρ σ _ g e (q.bind fun x S1 ι1 F1 H1 v l1 g1 r1 _ h1 => ?_)
      cases b with
      | mk c as kw =>
        simp at hs
        refine mk_ok Z A (by omega) Wx g1 (e.le l1) (h1.bind fun y S2 ι2 F2 H2 u l2 g2 r2 _ h2 => ?_)
        obtain ⟨r2, b, rfl, hb⟩ := r2
        unfold neX at h2
        split at h2
        · rename_i c1 w1 c2 w2
          split at h2
          · rename_i hc
            obtain ⟨hc1, hc2⟩ := hc
            subst hc1
            obtain ⟨a0, d0, rfl, k1, k2, k3⟩ := exn_at g2 (r1.le l2)
            obtain ⟨b0, d1, eb, j1, j2, _⟩ := exn_at g2 r2
            cases eb
            obtain ⟨a1, d2, ea, _, _, k4⟩ := exn_at g1 r1
            cases ea
            have ne : a0 ≠ b := fun z => by
              have := g1.ex _ _ k4
              rw [z, hb] at this
              cases this
            obtain ⟨_, _, e3, e4⟩ := Z.gd.ex _ hc2
            exact ⟨a0, b, _, d0, d1, rfl, rfl, ne, k1, k2, j1, j2, e3, e4, hereB h2 g2⟩
          · exact h2.elim
        · exact h2.elim
      | _ => rename_i hb; exact absurd hb (by simp [isMk])
    · exact q.elim
  | comp mm elt tg k src cond own =>
    simp at hs
    unfold evE at q
    split at q
    · rename_i hsh
      refine rdI_of hsh ?_
      refine A.es src (by omega) Wx ι F S H ρ σ _ g e (q.bind fun ws S1 ι1 F1 H1 vs l1 g1 r1 _ h1 => ?_)
      split at h1
      · rename_i sr N hsr
        split at h1
        · rename_i hN
          rw [Bool.and_eq_true] at hN
          refine src_ok g1 r1 hsr fun J rs D hD => ?_
          generalize hrun : compGo sr _ (N + 1) 0 S1 = res at h1
          cases res with
          | ok total Sf =>
            exact comp_ok rfl (A.f cond (by omega) W0) (A.e elt (by omega) W0) (of_decide_eq_true hN.1) hN.2 g1 (e.le l1) rs hrun h1 D hD
          | exc c w Sf =>
            exfalso
            have no : ∀ (n i : Nat) (S : Sto) (f : IW → Sto → R (Option W)) c w S', compGo sr f n i S ≠ .exc c w S' := fun n => by
              induction n with
              | zero => intro i S f c w S' z; cases z
              | succ n ih =>
                intro i S f c w S' z
                unfold compGo at z
                split at z
                · cases z
                · split at z
                  · split at z <;> cases z
                  · cases z
                · cases z
            exact no _ _ _ _ _ _ _ hrun
          | bad => exact h1.elim
        · exact h1.elim
      · exact h1.elim
    · exact q.elim
theorem allE_ok (Z : Glue G Fv gd) : ∀ n, AllE G Fv gd n
  | 0 => ⟨fun _ h => by omega, fun _ h => by omega, fun _ h => by omega, fun _ h => by omega, fun _ h => by omega⟩
  | n + 1 => ⟨e_step Z (allE_ok Z n), es_step (allE_ok Z n), o_step (allE_ok Z n), f_step (allE_ok Z n), t_step Z (allE_ok Z n)⟩
theorem e_ok (Z : Glue G Fv gd) (m : ME) (Wx : WX) : Snd G (RE G) Wx (rdE G Wx m) (evE Fv gd m) := (allE_ok Z _).e m (Nat.lt_succ_self _) Wx
theorem es_ok (Z : Glue G Fv gd) (m : MEs) (Wx : WX) : Snd G (REs G) Wx (rdEs G Wx m) (evEs Fv gd m) := (allE_ok Z _).es m (Nat.lt_succ_self _) Wx
theorem t_ok (Z : Glue G Fv gd) (m : ME) (Wx : WX) : Snd G REq Wx (rdT G Wx m) (evT Fv gd m) := (allE_ok Z _).t m (Nat.lt_succ_self _) Wx
end
end MP
namespace MP
open PySem L2 PyProof.Rows PySem.Spec
def PostS (G : Gv) (Wx : WX) (ι : List Addr) (F H : Hp) (r : RS) (D : Ends) : Prop :=
  match r with
  | .next ρ S => ∀ ι' F' H' σ', Le ι F H ι' F' H' → GoodS G ι' F' S H' → ER G ι' F' ρ σ' → D.nx σ' H'
  | .brk ρ S => ∀ ι' F' H' σ', Le ι F H ι' F' H' → GoodS G ι' F' S H' → ER G ι' F' ρ σ' → D.bk σ' H'
  | .cont ρ S => ∀ ι' F' H' σ', Le ι F H ι' F' H' → GoodS G ι' F' S H' → ER G ι' F' ρ σ' → D.ct σ' H'
  | .ret w S => ∀ ι' F' H' v, Le ι F H ι' F' H' → GoodS G ι' F' S H' → WR G ι' F' w v → D.rt v H'
  | .exc c w ρ S => ∀ ι' F' H' σ' d, Le ι F H ι' F' H' → GoodS G ι' F' S H' → ER G ι' F' ρ σ' → ExcAt G ι' F' c w d → Wx (.ref (G.cl c)) d σ' H'
  | .bad => False
def SndS (G : Gv) (Wx : WX) (t : TS) (ev : Rho → Sto → RS) : Prop :=
  ∀ (ι : List Addr) (F : Hp) (S : Sto) (H : Hp) (ρ : Rho) (σ : L2.St) (D : Ends), GoodS G ι F S H → ER G ι F ρ σ → PostS G Wx ι F H (ev ρ S) D → t D σ H
section
variable {G : Gv} {Wx : WX} {ι ι1 : List Addr} {F H F1 H1 : Hp} {S : Sto} {ρ : Rho} {σ : L2.St} {D : Ends}
theorem PostS.le {r : RS} (l : Le ι F H ι1 F1 H1) (h : PostS G Wx ι F H r D) : PostS G Wx ι1 F1 H1 r D := by
  cases r with
  | next ρ S => exact fun ι' F' H' v l' g => h ι' F' H' v (l.trans l') g
  | brk ρ S => exact fun ι' F' H' v l' g => h ι' F' H' v (l.trans l') g
  | cont ρ S => exact fun ι' F' H' v l' g => h ι' F' H' v (l.trans l') g
  | ret w S => exact fun ι' F' H' v l' g => h ι' F' H' v (l.trans l') g
  | exc c w ρ S => exact fun ι' F' H' v d l' g => h ι' F' H' v d (l.trans l') g
  | bad => exact h
theorem PostS.bind {α β : Type} {rel : List Addr → Hp → α → β → Prop} {r : R α} {f : α → Sto → RS} {Q : β → Hp → Prop} (h : PostS G Wx ι F H (r.toS ρ f) D) (e : ER G ι F ρ σ)
    (k : ∀ a S' ι' F' H' v, Le ι F H ι' F' H' → GoodS G ι' F' S' H' → rel ι' F' a v → PostS G Wx ι' F' H' (f a S') D → Q v H') : Post G rel (WE Wx σ) ι F H r Q := by
  cases r with
  | ok a S' => exact fun ι' F' H' v l g q => k a S' ι' F' H' v l g q (PostS.le l h)
  | exc c w S' => exact fun ι' F' H' d l g q => h ι' F' H' σ d l g (e.le l) q
  | bad => exact h
theorem PostS.next {ρ' : Rho} {σ' : L2.St} (h : PostS G Wx ι F H (.next ρ' S) D) (g : GoodS G ι F S H) (e : ER G ι F ρ' σ') : D.nx σ' H := h ι F H σ' (Le.refl ..) g e
end
section
variable {G : Gv} {Fv : Nat → List W → Sto → R W} {gd : Gd} {n : Nat} {Wx : WX}
theorem asg_ok (Z : Glue G Fv gd) {ι : List Addr} {F H : Hp} {S : Sto} {ρ : Rho} {σ : L2.St} {D : Ends} {mg : MG} {w : W} {v : V} {k : Rho → Sto → RS} {P : L2.St → Hp → Prop} (g : GoodS G ι F S H) (e : ER G ι F ρ σ) (r : WR G ι F w v)
    (h : PostS G Wx ι F H (asgG Fv gd mg w ρ S k) D) (kk : ∀ ρ' S' ι' F' H' σ', Le ι F H ι' F' H' → GoodS G ι' F' S' H' → ER G ι' F' ρ' σ' → PostS G Wx ι' F' H' (k ρ' S') D → P σ' H') : rdG G Wx mg v σ H P := by
  cases mg with
  | nm i => exact kk _ _ _ _ _ _ (Le.refl ..) g (e.set i r) h
  | sub a i =>
    unfold asgG at h
    refine e_ok Z a Wx ι F S H ρ σ _ g e (h.bind e fun x S1 ι1 F1 H1 xv l1 g1 r1 h1 => ?_)
    refine e_ok Z i Wx ι1 F1 S1 H1 ρ σ _ g1 (e.le l1) (h1.bind (e.le l1) fun y S2 ι2 F2 H2 yv l2 g2 r2 h2 => ?_)
    have e2 := (e.le l1).le l2
    refine set_okW (E := WE Wx σ) g2 (r1.le l2) r2 ((r.le l1).le l2) (h2.bind (rel := fun _ _ _ _ => True) e2 fun u S3 ι3 F3 H3 uv l3 g3 r3 h3 => ?_)
    exact kk _ _ _ _ _ _ ((l1.trans l2).trans l3) g3 (e2.le l3) h3
theorem asgs_ok (Z : Glue G Fv gd) {D : Ends} {k : Rho → Sto → RS} {P : L2.St → Hp → Prop} : ∀ {gs : List MG} {ws : List W} {vs : List V} {ι : List Addr} {F H : Hp} {S : Sto} {ρ : Rho} {σ : L2.St}, GoodS G ι F S H → ER G ι F ρ σ → WRs G ι F ws vs →
    PostS G Wx ι F H (asgGs Fv gd gs ws ρ S k) D → (∀ ρ' S' ι' F' H' σ', Le ι F H ι' F' H' → GoodS G ι' F' S' H' → ER G ι' F' ρ' σ' → PostS G Wx ι' F' H' (k ρ' S') D → P σ' H') → rdGs G Wx gs vs σ H P
  | [], [], _, ι, F, H, S, ρ, σ, g, e, .nil, h, kk => ⟨rfl, kk _ _ _ _ _ _ (Le.refl ..) g e h⟩
  | mg :: gs, w :: ws, _, ι, F, H, S, ρ, σ, g, e, .cons r t, h, kk => by
    refine ⟨_, _, rfl, asg_ok Z g e r h fun ρ' S' ι' F' H' σ' l g' e' h' => ?_⟩
    exact asgs_ok Z g' e' (WRs.up l.pre l.ex t) h' fun ρ2 S2 ι2 F2 H2 σ2 l2 => kk ρ2 S2 ι2 F2 H2 σ2 (l.trans l2)
  | [], _ :: _, _, _, _, _, _, _, _, _, _, _, h, _ => h.elim
  | _ :: _, [], _, _, _, _, _, _, _, _, _, _, h, _ => h.elim
structure AllB (G : Gv) (Fv : Nat → List W → Sto → R W) (gd : Gd) (wf n : Nat) : Prop where
  s : ∀ m : MS, sizeOf m < n → ∀ Wx, SndS G Wx (rdS G Wx m) (exS Fv gd wf m)
  ss : ∀ m : MSs, sizeOf m < n → ∀ Wx, SndS G Wx (rdSs G Wx m) (exSs Fv gd wf m)
theorem while_ok {ev : Rho → Sto → R Bool} {f : Rho → Sto → RS} {tc : TT} {tb : TS} (hc : Snd G REq Wx tc ev) (hb : SndS G Wx tb f) (N : Nat) : SndS G Wx (tWhile tc tb) (fun ρ S => whlGo ev f N ρ S) := by
  intro ι F S H ρ σ D g e q
  refine ⟨fun m σ' H' => ∃ ι' F' S' ρ', Le ι F H ι' F' H' ∧ GoodS G ι' F' S' H' ∧ ER G ι' F' ρ' σ' ∧ PostS G Wx ι' F' H' (whlGo ev f m ρ' S') D, ⟨N, ι, F, S, ρ, Le.refl .., g, e, q⟩, ?_⟩
  rintro m σ0 H0 ⟨ι0, F0, S0, ρ0, l0, g0, e0, q0⟩
  cases m with
  | zero => exact q0.elim
  | succ k =>
    unfold whlGo at q0
    refine hc ι0 F0 S0 H0 ρ0 σ0 _ g0 e0 (q0.bind e0 fun b S1 ι1 F1 H1 b' l1 g1 r1 h1 => ?_)
    cases (show b = b' from r1)
    cases b with
    | false =>
      rw [if_neg Bool.false_ne_true] at h1 ⊢
      exact h1.next g1 (e0.le l1)
    | true =>
      rw [if_pos rfl] at h1 ⊢
      refine ⟨_, fun σ' H' w => ⟨k, Nat.lt_succ_self k, w⟩, hb ι1 F1 S1 H1 ρ0 σ0 _ g1 (e0.le l1) ?_⟩
      have l01 := l0.trans l1
      cases hr : f ρ0 S1 with
      | next ρ2 S2 => rw [hr] at h1; exact fun ι2 F2 H2 σ2 l2 g2 e2 => ⟨ι2, F2, S2, ρ2, l01.trans l2, g2, e2, PostS.le l2 h1⟩
      | cont ρ2 S2 => rw [hr] at h1; exact fun ι2 F2 H2 σ2 l2 g2 e2 => ⟨ι2, F2, S2, ρ2, l01.trans l2, g2, e2, PostS.le l2 h1⟩
      | brk ρ2 S2 => rw [hr] at h1; exact h1
      | ret w S2 => rw [hr] at h1; exact h1
      | exc c w ρ2 S2 => rw [hr] at h1; exact h1
      | bad => rw [hr] at h1; exact h1
theorem for_ok {sr : Src} {J : It} {tg : MT} {f : Rho → Sto → RS} {tb : TS} (hb : SndS G Wx tb f) (N : Nat) {ι : List Addr} {F H : Hp} {S : Sto} {ρ : Rho} {σ : L2.St} {D : Ends} (g : GoodS G ι F S H) (e : ER G ι F ρ σ) (rs : SrcR G ι F sr J)
    (q : PostS G Wx ι F H (forGo sr tg f N 0 ρ S) D) : ∃ Wv : Nat → Nat → L2.St → Hp → Prop, (∃ m, Wv 0 m σ H) ∧ ∀ i m σ H, Wv i m σ H →
      (J.stop i H ∧ D.nx σ H) ∨ (J.go i H ∧ ∃ Nx : L2.St → Hp → Prop, (∀ σ' H', Nx σ' H' → ∃ m', m' < m ∧ Wv (i + 1) m' σ' H') ∧ ∀ x H', J.yld i H x H' → rdTg G.K tg x σ H' fun σ2 H2 => tb { D with nx := Nx, ct := Nx, bk := D.nx } σ2 H2) := by
  refine ⟨fun i m σ' H' => ∃ ι' F' S' ρ', Le ι F H ι' F' H' ∧ GoodS G ι' F' S' H' ∧ ER G ι' F' ρ' σ' ∧ PostS G Wx ι' F' H' (forGo sr tg f m i ρ' S') D, ⟨N, ι, F, S, ρ, Le.refl .., g, e, q⟩, ?_⟩
  rintro i m σ0 H0 ⟨ι0, F0, S0, ρ0, l0, g0, e0, q0⟩
  cases m with
  | zero => exact q0.elim
  | succ k =>
    unfold forGo at q0
    split at q0
    · rename_i st
      exact .inl ⟨item_stop g0 (rs.le l0) st, q0.next g0 e0⟩
    · rename_i it st
      obtain ⟨go, yl⟩ := item_go g0 (rs.le l0) st
      refine .inr ⟨go, _, fun σ' H' w => ⟨k, Nat.lt_succ_self k, w⟩, fun x H' y => ?_⟩
      split at q0
      · rename_i ρ1 hbt
        refine bind_ok g0 (yl x H' y) hbt e0 fun σ1 e1 g1 l1 _ => ?_
        refine hb ι0 F0 S0 H' ρ1 σ1 _ g1 e1 ?_
        have l01 := l0.trans l1
        have h1 := PostS.le l1 q0
        cases hr : f ρ1 S0 with
        | next ρ2 S2 => rw [hr] at h1; exact fun ι2 F2 H2 σ2 l2 g2 e2 => ⟨ι2, F2, S2, ρ2, l01.trans l2, g2, e2, PostS.le l2 h1⟩
        | cont ρ2 S2 => rw [hr] at h1; exact fun ι2 F2 H2 σ2 l2 g2 e2 => ⟨ι2, F2, S2, ρ2, l01.trans l2, g2, e2, PostS.le l2 h1⟩
        | brk ρ2 S2 => rw [hr] at h1; exact h1
        | ret w S2 => rw [hr] at h1; exact h1
        | exc c w ρ2 S2 => rw [hr] at h1; exact h1
        | bad => rw [hr] at h1; exact h1
      · exact q0.elim
    · exact q0.elim
theorem s_step (Z : Glue G Fv gd) {wf : Nat} (A : AllB G Fv gd wf n) (m : MS) (hs : sizeOf m < n + 1) (Wx : WX) : SndS G Wx (rdS G Wx m) (exS Fv gd wf m) := by
  intro ι F S H ρ σ D g e q
  cases m with
  | asg mg a =>
    unfold exS at q
    refine e_ok Z a Wx ι F S H ρ σ _ g e (q.bind e fun x S1 ι1 F1 H1 v l1 g1 r1 h1 => ?_)
    exact asg_ok Z g1 (e.le l1) r1 h1 fun ρ' S' ι' F' H' σ' l' g' e' h' => h'.next g' e'
  | asgT gs a =>
    unfold exS at q
    refine e_ok Z a Wx ι F S H ρ σ _ g e (q.bind e fun x S1 ι1 F1 H1 v l1 g1 r1 h1 => ?_)
    split at h1
    · rename_i ws hw
      obtain ⟨a, xs, rfl, qs, z, p⟩ := seqT_ok g1 r1 hw
      split at h1
      · rename_i hl
        exact ⟨a, xs, rfl, qs, by rw [← p.length]; exact hl, asgs_ok Z g1 (e.le l1) p h1 fun ρ' S' ι' F' H' σ' l' g' e' h' => h'.next g' e'⟩
      · exact h1.elim
    · exact h1.elim
  | par is es =>
    unfold exS at q
    split at q
    · rename_i hl
      have key : ∀ {ws : List W} {vs : List V} {ι1 : List Addr} {F1 H1 : Hp} {S1 : Sto}, GoodS G ι1 F1 S1 H1 → ER G ι1 F1 ρ σ → WRs G ι1 F1 ws vs → PostS G Wx ι1 F1 H1 (match setIs is ws ρ with | some ρ' => .next ρ' S1 | none => .bad) D → rdTgs is vs σ H1 D.nx := fun g1 e1 r1 h1 => by
        split at h1
        · rename_i ρ' hr
          exact (sets_ok hr r1 e1 fun σ' e' _ => h1.next g1 e').1
        · exact h1.elim
      match is, hl with
      | [i, j], _ =>
        refine es_ok Z es Wx ι F S H ρ σ _ g e (q.bind e fun ws S1 ι1 F1 H1 vs l1 g1 r1 h1 => ?_)
        obtain ⟨v, r, rfl, v2, r2, rfl, rfl, hq⟩ := key g1 (e.le l1) r1 h1
        exact ⟨v, v2, rfl, hq⟩
      | [i, j, l], _ =>
        refine es_ok Z es Wx ι F S H ρ σ _ g e (q.bind e fun ws S1 ι1 F1 H1 vs l1 g1 r1 h1 => ?_)
        obtain ⟨v, r, rfl, v2, r2, rfl, v3, r3, rfl, rfl, hq⟩ := key g1 (e.le l1) r1 h1
        exact ⟨v, v2, v3, rfl, hq⟩
    · exact q.elim
  | aug i o a =>
    unfold exS at q
    split at q
    · rename_i ho
      split at q
      · rename_i x hx
        obtain ⟨xv, hx1, hx2⟩ := e.get hx
        cases inv_int hx2
        refine ⟨_, hx1, e_ok Z a Wx ι F S H ρ σ _ g e (q.bind e fun y S1 ι1 F1 H1 v l1 g1 r1 h1 => ?_)⟩
        split at h1
        · cases inv_int r1
          split at h1
          · exact ⟨_, _, rfl, rfl, h1.next g1 ((e.le l1).set i (At.int _))⟩
          · exact ⟨_, _, rfl, rfl, h1.next g1 ((e.le l1).set i (At.int _))⟩
          · split at h1
            · rename_i hc
              exact ⟨_, _, rfl, rfl, hc, h1.next g1 ((e.le l1).set i (At.int _))⟩
            · exact h1.elim
          · exact h1.elim
        · exact h1.elim
      · exact q.elim
    · exact q.elim
  | expr a =>
    unfold exS at q
    refine e_ok Z a Wx ι F S H ρ σ _ g e (q.bind e fun x S1 ι1 F1 H1 v l1 g1 r1 h1 => ?_)
    exact h1.next g1 (e.le l1)
  | ret a =>
    unfold exS at q
    refine e_ok Z a Wx ι F S H ρ σ _ g e (q.bind e fun x S1 ι1 F1 H1 v l1 g1 r1 h1 => ?_)
    exact h1 _ _ _ _ (Le.refl ..) g1 r1
  | retN => exact q ι F H .non (Le.refl ..) g At.non
  | pass => exact q.next g e
  | brk => exact q ι F H σ (Le.refl ..) g e
  | cont => exact q ι F H σ (Le.refl ..) g e
  | ife c a b =>
    simp at hs
    unfold exS at q
    refine t_ok Z c Wx ι F S H ρ σ _ g e (q.bind e fun k S1 ι1 F1 H1 k' l1 g1 r1 h1 => ?_)
    cases (show k = k' from r1)
    cases k with
    | true => rw [if_pos rfl] at h1 ⊢; exact A.ss a (by omega) Wx ι1 F1 S1 H1 ρ σ D g1 (e.le l1) h1
    | false => rw [if_neg Bool.false_ne_true] at h1 ⊢; exact A.ss b (by omega) Wx ι1 F1 S1 H1 ρ σ D g1 (e.le l1) h1
  | fors tg k src body =>
    simp at hs
    unfold exS at q
    split at q
    · rename_i hsh
      refine rdI_of hsh (es_ok Z src Wx ι F S H ρ σ _ g e (q.bind e fun ws S1 ι1 F1 H1 vs l1 g1 r1 h1 => ?_))
      split at h1
      · rename_i sr N hsr
        refine src_ok g1 r1 hsr fun J rs => ?_
        exact for_ok (A.ss body (by omega) Wx) (N + 1) g1 (e.le l1) rs h1
      · exact h1.elim
    · exact q.elim
  | whl c body =>
    simp at hs
    unfold exS at q
    exact while_ok (t_ok Z c Wx) (A.ss body (by omega) Wx) wf ι F S H ρ σ D g e q
theorem ss_step (Z : Glue G Fv gd) {wf : Nat} (A : AllB G Fv gd wf n) (m : MSs) (hs : sizeOf m < n + 1) (Wx : WX) : SndS G Wx (rdSs G Wx m) (exSs Fv gd wf m) := by
  intro ι F S H ρ σ D g e q
  cases m with
  | nil => exact q.next g e
  | cons a r =>
    simp at hs
    unfold exSs at q
    refine A.s a (by omega) Wx ι F S H ρ σ _ g e ?_
    cases hr : exS Fv gd wf a ρ S with
    | next ρ2 S2 =>
      rw [hr] at q
      exact fun ι2 F2 H2 σ2 l2 g2 e2 => A.ss r (by omega) Wx ι2 F2 S2 H2 ρ2 σ2 D g2 e2 (PostS.le l2 q)
    | brk ρ2 S2 => rw [hr] at q; exact q
    | cont ρ2 S2 => rw [hr] at q; exact q
    | ret w S2 => rw [hr] at q; exact q
    | exc c w ρ2 S2 => rw [hr] at q; exact q
    | bad => rw [hr] at q; exact q
theorem allB_ok (Z : Glue G Fv gd) (wf : Nat) : ∀ n, AllB G Fv gd wf n
  | 0 => ⟨fun _ h => by omega, fun _ h => by omega⟩
  | n + 1 => ⟨s_step Z (allB_ok Z wf n), ss_step Z (allB_ok Z wf n)⟩
theorem ss_ok (Z : Glue G Fv gd) (wf : Nat) (m : MSs) (Wx : WX) : SndS G Wx (rdSs G Wx m) (exSs Fv gd wf m) := (allB_ok Z wf _).ss m (Nat.lt_succ_self _) Wx
end
end MP
namespace MP
open PySem L2 PyProof.Rows PySem.Spec
/-! ## the end of a call: what was made within stands as data -/
section
variable {G : Gb} {ι ι0 : List Addr} {F H F0 H0 : Hp} {S : Sto}
noncomputable def frzF (ι : List Addr) (n : Nat) (F H : Hp) : Hp := fun a => by
  classical
  exact if a ∈ ι.drop n then H a else F a
theorem frzF_in {n : Nat} {a : Addr} (h : a ∈ ι.drop n) : frzF ι n F H a = H a := by unfold frzF; exact if_pos h
theorem frzF_out {n : Nat} {a : Addr} (h : a ∉ ι.drop n) : frzF ι n F H a = F a := by unfold frzF; exact if_neg h
theorem frzF_ex (g : GoodS G ι F S H) (n : Nat) : Ex F (frzF ι n F H) := fun a o h => by
  by_cases z : a ∈ ι.drop n
  · rw [frzF_in z]; exact g.ex a o h
  · rw [frzF_out z]; exact h
theorem closedW_ok {n : Nat} {F' : Hp} (ex : Ex F F') : ∀ {w : W} {v : V}, closedW n w = true → WR G ι F w v → WR G (ι.take n) F' w v
  | .d x, _, _, h => At.mono ex x h
  | .ref m, _, c, ⟨a, h1, h2⟩ => by
    have c' : m < n := of_decide_eq_true c
    exact ⟨a, by rw [List.getElem?_take_of_lt c']; exact h1, h2⟩
  | .ty _, _, _, h => h
  | .cls _, _, _, h => h
  | .exn c w, v, hc, ⟨a, hv, h⟩ => by
    refine ⟨a, hv, ?_⟩
    by_cases q : G.hv c = true
    · rw [if_pos q] at h ⊢
      obtain ⟨d, x, h1, h2, h3⟩ := h
      exact ⟨d, x, ex _ _ h1, ex _ _ h2, closedW_ok ex (show closedW n w = true from hc) h3⟩
    · rw [if_neg q] at h ⊢
      exact ex _ _ h
theorem closedL_ok {n : Nat} {F' : Hp} (ex : Ex F F') : ∀ {ws : List W} {vs : List V}, ws.all (closedW n) = true → WRs G ι F ws vs → WRs G (ι.take n) F' ws vs
  | [], _, _, .nil => .nil
  | w :: r, _, c, .cons h t => by
    rw [List.all_cons, Bool.and_eq_true] at c
    exact .cons (closedW_ok ex c.1 h) (closedL_ok ex c.2 t)
theorem closedK_ok {n : Nat} {F' : Hp} (ex : Ex F F') : ∀ {ws : List (Key × W)} {vs : List (Key × V)}, (ws.all fun p => closedW n p.2) = true → KR G ι F ws vs → KR G (ι.take n) F' ws vs
  | [], _, _, .nil => .nil
  | w :: r, _, c, .cons h t => by
    rw [List.all_cons, Bool.and_eq_true] at c
    exact .cons ⟨h.1, closedW_ok ex c.1 h.2⟩ (closedK_ok ex c.2 t)
theorem frz_ok (g : GoodS G ι F S H) {n : Nat} : ∀ {w w' : W} {v : V}, frzW n S w = some w' → WR G ι F w v → WR G (ι.take n) (frzF ι n F H) w' v
  | .d x, _, _, e, h => by cases e; exact closedW_ok (frzF_ex g n) (w := .d x) rfl h
  | .ref m, _, v, e, h => by
    unfold frzW at e
    split at e
    · rename_i hm
      cases e
      exact closedW_ok (frzF_ex g n) (w := .ref m) (decide_eq_true hm) h
    · rw [Option.map_eq_some_iff] at e
      obtain ⟨x, e1, rfl⟩ := e
      exact rb_ok g (frzF_ex g n) (fun k a u hk ha hu => by
        rw [frzF_in ?_]
        · exact hu
        · obtain ⟨hl, e⟩ := List.getElem?_eq_some_iff.mp ha
          rw [List.mem_drop_iff_getElem]
          exact ⟨k - n, by omega, by rw [← e]; congr 1; omega⟩) _ _ _ _ e1 h
  | .ty t, _, _, e, h => by cases e; exact h
  | .cls t, _, _, e, h => by cases e; exact h
  | .exn c w, _, v, e, ⟨a, hv, h⟩ => by
    unfold frzW at e
    rw [Option.map_eq_some_iff] at e
    obtain ⟨x, e1, rfl⟩ := e
    refine ⟨a, hv, ?_⟩
    have ex := frzF_ex g n
    by_cases q : G.hv c = true
    · rw [if_pos q] at h ⊢
      obtain ⟨d, x, h1, h2, h3⟩ := h
      exact ⟨d, x, ex _ _ h1, ex _ _ h2, frz_ok g e1 h3⟩
    · rw [if_neg q] at h ⊢
      exact ex _ _ h
theorem leave_ok {raw : Bool} {w w' : W} {S' : Sto} (g : GoodS G ι F S H) (l : Le ι0 F0 H0 ι F H) {n : Nat} (hn : ι0.length = n) (e : leaveW raw n w S = .ok w' S') :
    ∃ ι' F', Le ι0 F0 H0 ι' F' H ∧ GoodS G ι' F' S' H ∧ Ex F F' ∧ ∀ v, WR G ι F w v → WR G ι' F' w' v := by
  unfold leaveW at e
  split at e
  · cases e
    exact ⟨ι, F, l, g, fun _ _ h => h, fun _ h => h⟩
  · split at e
    · rename_i hc
      split at e
      · rename_i x hx
        cases e
        have ex := frzF_ex g n
        have i0 : ι.take n = ι0 := by
          obtain ⟨r, rfl⟩ := l.pre
          rw [List.take_append_of_le_length (by omega), List.take_of_length_le (by omega)]
        have hl : n ≤ ι.length := by
          have := l.pre.length_le
          omega
        have apart : ∀ a ∈ ι.take n, a ∉ ι.drop n := fun a h1 h2 => by
          have nd := g.nd
          rw [← List.take_append_drop n ι, List.nodup_append] at nd
          exact nd.2.2 a h1 a h2 rfl
        refine ⟨ι.take n, frzF ι n F H, ⟨by rw [i0]; exact List.prefix_refl _, fun a o h => ex a o (l.ex a o h), l.dom, l.keep, fun a h1 h2 h3 => ?_, fun a h1 h2 => ?_⟩, ⟨fun a o h => ?_, by rw [List.length_take, List.length_take, g.len], ?_, fun k o a h1 h2 => ?_, fun a ha => g.fr a (List.mem_of_mem_take ha)⟩, ex, fun v h => frz_ok g hx h⟩
        · have z : a ∉ ι.drop n := fun z => h3 (l.newL a (List.mem_of_mem_drop z) h1)
          rw [frzF_out z]; exact l.newF a h1 h2 h3
        · rw [i0] at h1; exact absurd h1 h2
        · by_cases z : a ∈ ι.drop n
          · rw [frzF_in z] at h; exact h
          · rw [frzF_out z] at h; exact g.ex a o h
        · exact List.Nodup.sublist (List.take_sublist _ _) g.nd
        · have hk : k < n := by
            have := (List.getElem?_eq_some_iff.mp h2).1
            rw [List.length_take] at this
            omega
          have h2' := h2
          rw [List.getElem?_take_of_lt hk] at h1 h2
          have ho := g.obj k o a h1 h2
          have co : closedO n o = true := by
            rw [List.all_eq_true] at hc
            exact hc o (List.mem_of_getElem? (by rw [List.getElem?_take_of_lt hk]; exact h1))
          have za : a ∉ ι.drop n := apart a (List.mem_of_getElem? h2')
          cases o with
          | lst ws => obtain ⟨f, xs, q1, q2, q3⟩ := ho; exact ⟨by rw [frzF_out za]; exact f, xs, q1, q2, closedL_ok ex co q3⟩
          | tup ws => obtain ⟨f, xs, q1, q2, q3⟩ := ho; exact ⟨by rw [frzF_out za]; exact f, xs, q1, q2, closedL_ok ex co q3⟩
          | dk kvs => obtain ⟨f, xs, q1, q3⟩ := ho; exact ⟨by rw [frzF_out za]; exact f, xs, q1, closedK_ok ex co q3⟩
          | dead => trivial
      · cases e
    · cases e
end
end MP
namespace MP
open PySem L2 PyProof.Rows PySem.Spec
/-- a def of the text: its name, the statement, its names (the parameters first) -/
structure Df where
  x : Str
  st : PySem.Stmt
  N : List Str
def dfOk (T : Tab) (d : Fn) (t : Df) : Bool :=
  chkSs T t.N (defScope t.st) d.body (defBody t.st) && decide (t.N.length = d.nn) && decide (d.np ≤ d.nn) && decide t.N.Nodup &&
  (match (defScope t.st).kind with | .function => true | _ => false) && !(defScope t.st).isCoroutine && !(defScope t.st).isGenerator &&
  ((t.N.take d.np).all fun x => match (defScope t.st).names.lookup x with | some .local => true | some .cell => true | _ => false) &&
  ((defScope t.st).names.all fun y => match y.2 with | .free => false | _ => true)
theorem dfOk_sc {T : Tab} {d : Fn} {t : Df} (h : dfOk T d t = true) : chkSs T t.N (defScope t.st) d.body (defBody t.st) = true ∧ t.N.length = d.nn ∧ FnScope t.N (t.N.take d.np) (defScope t.st) ∧ (t.N.take d.np).length = d.np := by
  unfold dfOk at h
  simp only [Bool.and_eq_true, decide_eq_true_eq, Bool.not_eq_true'] at h
  obtain ⟨⟨⟨⟨⟨⟨⟨⟨h1, h2⟩, h3⟩, h4⟩, h5⟩, h6⟩, h7⟩, h8⟩, h9⟩ := h
  have hl : (t.N.take d.np).length = d.np := by rw [List.length_take]; omega
  refine ⟨h1, h2, ⟨?_, h6, h7, h4, by rw [hl], fun x hx => ?_, fun y hy => ?_⟩, hl⟩
  · split at h5
    · assumption
    · cases h5
  · rw [List.all_eq_true] at h8
    have := h8 x hx
    split at this
    · exact .inl (by assumption)
    · exact .inr (by assumption)
    · cases this
  · rw [List.all_eq_true] at h9
    have := h9 y hy
    intro e
    rw [e] at this
    cases this
/-- what a call promises: what the reckoner reckons -/
def spMP (G0 : Gb) (fs : List Fn) (gd : Gd) (wf n f : Nat) : Sp := fun vs H Q E => ∃ ι F S ws, GoodS G0 ι F S H ∧ WRs G0 ι F ws vs ∧ Post G0 (RE G0) E ι F H (runF fs gd wf n f ws S) Q
abbrev gvAt (G0 : Gb) (fs : List Fn) (gd : Gd) (gv : Nat → V) (wf n : Nat) : Gv := { G0 with sp := spMP G0 fs gd wf n, gv := gv }
/-- what the written part says of the module -/
structure Ent (P : Program) (w : World) (G0 : Gb) (mg : Str → Option Value) (T : Tab) (fs : List Fn) (ts : List Df) (gd : Gd) (gv : Nat → V) : Prop where
  ok : ∀ (i : Nat) (d : Fn) (t : Df), fs[i]? = some d → ts[i]? = some t → dfOk T d t = true
  len : T.fns.length = fs.length ∧ T.fns.length = ts.length
  fn : ∀ (i : Nat) (t : Df) (d : Fn), ts[i]? = some t → fs[i]? = some d → T.fns[i]? = some t.x ∧ ∃ f fd, Fun G0.K t.x t.x t.st f fd ∧ mg t.x = some (.ref f) ∧ Binds G0.K fd (t.N.take d.np) []
  glb : ∀ (i : Nat) (x : Str), T.glbs[i]? = some x → ∃ u, mg x = some u ∧ RelV (gv i) u
  gl : ∀ i ι F, WR G0 ι F (gd.v i) (gv i)
  gd : GdOk G0 gd
  cls : ∀ (i : Nat) (x : Str), T.cls[i]? = some x → mg x = some (.ref (G0.cl i)) ∧ ClF P G0.K (G0.cl i) (G0.hv i)
  blt : ∀ b : Bi, mg b.name = none
  tys : ∀ t ∈ tyNames, mg (Str.ofString t) = none
  rng : mg "range" = none
  enu : mg "enumerate" = none
  zp : mg "zip" = none
section
variable {P : Program} {w : World} {G0 : Gb} {mg : Str → Option Value} {base : Heap} {T : Tab} {fs : List Fn} {ts : List Df} {gd : Gd} {gv : Nat → V} {wf : Nat}
theorem run_some {n f : Nat} {ws : List W} {S : Sto} {E : XK} {ι : List Addr} {F H : Hp} {Q : VK} (h : Post G0 (RE G0) E ι F H (runF fs gd wf n f ws S) Q) : ∃ k d, n = k + 1 ∧ fs[f]? = some d ∧ ws.length = d.np := by
  cases n with
  | zero => exact h.elim
  | succ k =>
    unfold runF at h
    split at h
    · exact h.elim
    · rename_i d hd
      split at h
      · rename_i hl
        exact ⟨k, d, rfl, hd, hl⟩
      · exact h.elim
theorem er_start {ι : List Addr} {F : Hp} {ws : List W} {vs : List V} (r : WRs G0 ι F ws vs) (m : Nat) : ER G0 ι F (ws.map some ++ List.replicate m none) (vs.map some ++ List.replicate m none) := by
  refine papp ?_ ?_
  · induction r with
    | nil => exact .nil
    | cons h t ih => exact .cons (fun w e => by cases e; exact ⟨_, rfl, h⟩) ih
  · induction m with
    | zero => exact .nil
    | succ m ih => exact .cons (fun w e => by cases e) ih
theorem fns_ok (Z : Ent P w G0 mg T fs ts gd gv) : ∀ (n i : Nat) (d : Fn) (t : Df) (f : Addr) (fd : FuncData), fs[i]? = some d → ts[i]? = some t → Fun G0.K t.x t.x t.st f fd → FnOk P w G0.K mg base (L2.CX P w) n f fd (t.N.take d.np) (spMP G0 fs gd wf n i)
  | 0, i, d, t, f, fd, hd, ht, F => ⟨fun vs H Q E h => by obtain ⟨ι, F, S, ws, _, _, h⟩ := h; exact h.elim, fun A outer s H args us vs Q E _ _ _ _ h => by obtain ⟨ι, F, S, ws, _, _, h⟩ := h; exact h.elim⟩
  | n + 1, i, d, t, f, fd, hd, ht, F => by
    obtain ⟨hchk, hnn, hsc, hnp⟩ := dfOk_sc (Z.ok i d t hd ht)
    have ih := fns_ok Z n
    refine F.okX hsc (fun vs H Q E h => ?_) (fun cdv A outer s H vs Q E hr h => ?_)
    · obtain ⟨ι, F, S, ws, g, r, h⟩ := h
      obtain ⟨k, d', _, hd', hl⟩ := run_some h
      rw [hd] at hd'
      cases hd'
      rw [hnp, ← hl, r.length]
    · obtain ⟨ι, F', S, ws, g, r, h⟩ := h
      have G : Gv := gvAt G0 fs gd gv wf n
      have C : SxOk T (gvAt G0 fs gd gv wf n) n t.N (defScope t.st) (cxOf (L2.CX P w) P w G0.K mg base t.N t.x (defScope t.st) f cdv A outer s H E) := {
        hN := rfl
        nd := hsc.nd
        hsc := rfl
        hK := rfl
        calm := rfl
        room := hr
        fn := fun j x hx => by
          have hj := (List.getElem?_eq_some_iff.mp hx).1
          obtain ⟨l1, l2⟩ := Z.len
          have hd' : fs[j]? = some fs[j] := List.getElem?_eq_getElem (by omega)
          have ht' : ts[j]? = some ts[j] := List.getElem?_eq_getElem (by omega)
          obtain ⟨ex, f', fd', F1, m1, b1⟩ := Z.fn j _ _ ht' hd'
          rw [hx] at ex
          cases ex
          exact ⟨f', fd', _, m1, F1.kp, b1, ih j _ _ f' fd' hd' ht' F1⟩
        glb := Z.glb
        cls := Z.cls
        blt := Z.blt
        tys := Z.tys
        rng := Z.rng
        enu := Z.enu
        zp := Z.zp
        fnA := fun _ => rfl
        hp := passes_of rfl
        hst := rfl
        hfr := rfl
        hbk := by
          show Env.blockKind (envOfC t.x (defScope t.st) s.heap.objs.size f cdv) = .function
          have hk : (envOfC t.x (defScope t.st) s.heap.objs.size f cdv).scope.kind = .function := hsc.kind
          unfold Env.blockKind
          rw [hk]
          rfl }
      refine ⟨_, pss_ok C (takes_of rfl rfl rfl rfl) hchk, ?_⟩
      have glue : Glue (gvAt G0 fs gd gv wf n) (runF fs gd wf n) gd := ⟨fun f ws vs ι F S H Q E g r h => ⟨ι, F, S, ws, g, r, h⟩, Z.gl, Z.gd⟩
      obtain ⟨k, d', hk, hd', hl⟩ := run_some h
      cases hk
      rw [hd] at hd'
      cases hd'
      unfold runF at h
      rw [hd] at h
      simp only [hl, if_true] at h
      have hm : d.nn - d.np = t.N.length - vs.length := by rw [hnn, ← hl, r.length]
      rw [hm] at h
      refine ss_ok glue wf d.body _ ι F' S H _ _ _ g (er_start r (t.N.length - vs.length)) ?_
      cases hres : exSs (runF fs gd wf n) gd wf d.body (ws.map some ++ List.replicate (t.N.length - vs.length) none) S with
      | ret w' S' =>
        rw [hres] at h
        intro ι1 F1 H1 v l1 g1 r1
        dsimp only at h
        cases e : leaveW d.raw S.length w' S' with
        | ok w2 S2 =>
          rw [e] at h
          obtain ⟨ι2, F2, l2, g2, _, q⟩ := leave_ok g1 l1 g.len e
          exact h ι2 F2 H1 v l2 g2 (q v r1)
        | exc c w S => unfold leaveW at e; repeat (split at e <;> first | (cases e; done) | skip)
        | bad => rw [e] at h; exact h.elim
      | next ρ S' =>
        rw [hres] at h
        intro ι1 F1 H1 σ1 l1 g1 r1
        dsimp only at h
        cases e : leaveW false S.length (.d .none) S' with
        | ok w2 S2 =>
          rw [e] at h
          obtain ⟨ι2, F2, l2, g2, _, q⟩ := leave_ok g1 l1 g.len e
          exact h ι2 F2 H1 .non l2 g2 (q .non At.non)
        | exc c w S => unfold leaveW at e; repeat (split at e <;> first | (cases e; done) | skip)
        | bad => rw [e] at h; exact h.elim
      | exc c w' ρ S' =>
        rw [hres] at h
        intro ι1 F1 H1 σ1 dd l1 g1 r1 x1
        dsimp only at h
        cases e : leaveW false S.length w' S' with
        | ok w2 S2 =>
          rw [e] at h
          obtain ⟨ι2, F2, l2, g2, ex, q⟩ := leave_ok g1 l1 g.len e
          refine h ι2 F2 H1 dd l2 g2 ?_
          unfold ExcAt at x1 ⊢
          by_cases hv : G0.hv c = true
          · rw [if_pos hv] at x1 ⊢
            obtain ⟨a, x, h1, h2, h3⟩ := x1
            exact ⟨a, x, h1, ex _ _ h2, q _ h3⟩
          · rw [if_neg hv] at x1 ⊢
            exact x1
        | exc c w S => rw [e] at h; exact h.elim
        | bad => rw [e] at h; exact h.elim
      | brk ρ S' => rw [hres] at h; exact h.elim
      | cont ρ S' => rw [hres] at h; exact h.elim
      | bad => rw [hres] at h; exact h.elim
end
end MP
namespace MP
open PySem L2 PyProof.Rows PySem.Spec PySem.W
/-! ## from the written part -/
def clOf (K : Frag) (x : Str) : Addr := match nsIn K mainGlobals x with | some (some (.ref C)) => C | _ => 0
def gvOf (K : Frag) (x : Str) : V := match nsIn K mainGlobals x with | some (some u) => (absV u).getD .non | _ => .non
def g0Of (T : Tab) (gd : Gd) (K : Frag) : Gb := { K := K, cl := fun i => clOf K (T.cls.getD i ""), hv := gd.hv }
def gvsOf (T : Tab) (K : Frag) : Nat → V := fun i => match T.glbs[i]? with | some x => gvOf K x | none => .non
theorem ints_at {K : Frag} {F : Hp} : ∀ ns : List Int, AtL K F (ns.map V.int) (ns.map PyData.int)
  | [] => .nil
  | _ :: r => .cons (.int _) (ints_at r)
/-- THE END: what the reckoner reckons at every script is what the law says -/
theorem walk {l : OpenLaw} {q : Program} {loose : List Str} {XP : (Str → Option Value) → Heap → Prop} {YP : World → Heap → Prop} {d : DefRec} {K : Params → Frag} (T : Tab) (fs : List Fn) (ts : List Df) (gd : Gd) (wf k iL : Nat)
    (hn : l.most = some 63) (hdf : d.params.defaults = []) (hr : Room k callerA) (hY : ∀ (w : World) (h : Heap), YP w h → (K w.params).In h)
    (hlaw : ∀ ns : List Int, ns.length ≤ 63 → ∃ S, runF fs gd wf k iL [.d (.list (ns.map .int))] [] = .ok (.d (.bool true)) S)
    (hd : ∃ dL tL, fs[iL]? = some dL ∧ ts[iL]? = some tL ∧ tL.x = d.name ∧ tL.N.take dL.np = [("script" : Str)])
    (F : ∀ (w : World) (mg : Str → Option Value) (h : Heap), (K w.params).In h → h.Ns mainGlobals mg → Ent l.prog w (g0Of T gd (K w.params)) mg T fs ts gd (gvsOf T (K w.params)))
    (hb : ∀ (w : World) (f : Addr) (fd : FuncData) (dL : Fn) (tL : Df), fs[iL]? = some dL → ts[iL]? = some tL → Fun (K w.params) tL.x tL.x tL.st f fd → ∀ (s : Shared) (u : Value), BindsTo s fd ⟨[u], []⟩ [("script", u)]) :
    WalkO q loose XP YP l.row.toRowW d [] (fun f vs => PySem.call f vs) := by
  obtain ⟨dL, tL, h1, h2, h3, h4⟩ := hd
  refine L2.walk_of (n := 63) (k := k) (x := "script") (CX := fun w => L2.CX l.prog w) (sp := fun w => spMP (g0Of T gd (K w.params)) fs gd wf k iL) hn (by decide) hdf hr hY (fun w mg fa h KX G hmg => ?_) (fun w H a ns hl _ hS => ?_) (fun w H s e s' z => ?_)
  · have Z := F w mg h KX G
    obtain ⟨ex, f, fd, F1, m1, b1⟩ := Z.fn iL tL dL h2 h1
    rw [h3, hmg] at m1
    cases m1
    refine ⟨fd, fun s u => hb w fa fd dL tL h1 h2 F1 s u, fun base KB GB => ?_⟩
    have := fns_ok (base := base) (wf := wf) Z k iL dL tL fa fd h1 h2 F1
    rw [h4] at this
    exact this
  · obtain ⟨S, hrun⟩ := hlaw ns hl
    refine ⟨[], H, [], [.d (.list (ns.map .int))], ⟨fun _ _ h => h, rfl, List.nodup_nil, fun n o a h _ => by simp at h, fun a h => by simp at h⟩, .cons (At.lst hS (by rw [List.length_map]; exact Nat.le_trans hl (by decide)) (ints_at ns)) .nil, ?_⟩
    rw [hrun]
    intro ι' F' H' v _ _ r
    exact inv_bl r
  · obtain ⟨_, _, _, _, _, _, _, _, _, _, _, _, z⟩ := z
    exact z
end MP
namespace MP
open PySem L2 PyProof.Rows PySem.Spec PySem.W
/-! ## an own error's class, as the written part has it -/
def bodyPos : List PySem.Stmt → Nat → Pos
  | [.Expr (.Call (.Attribute (.Call (.Name _ p0) _ _ p1) _ p2) _ _ p3) p4, .Assign [.Attribute (.Name _ p5) _ p6] (.Name _ p7) p8], n => [p0, p1, p2, p3, p4, p5, p6, p7, p8].getD n p0
  | _, _ => ⟨0, 0, 0, 0⟩
def parPos : Arguments → Nat → Pos
  | ⟨_, [a, b], _, _, _, _, [.Constant _ _ p]⟩, n => [a.pos, b.pos, p].getD n p
  | _, _ => ⟨0, 0, 0, 0⟩
def sxB (K : Frag) (C : Addr) : Bool :=
  decide (findIn K (.ref C) "__setattr__" = some (some (.builtin "object.__setattr__"))) && decide (findIn K (.ref C) "value" = some none) && keepIn K (.ref C) && decide (subIn K (.ref C) (.type "BaseException") = some true) &&
  decide (typeIn K (.ref C) = some (.type "type")) && decide (subIn K (.ref C) (.type "ValueError") = some true) && decide (mroIn K C (.ref C) = some true) && decide (ks_superIn K C C "__init__" = some (some (.builtin "ValueError.__init__"))) &&
  excInitIn K C PySem.HandSPX.veTail "ValueError.__new__" && decide (nsIn K cStatics "thirdparty.any" = some none) && decide (nsIn K mainGlobals "super" = some none)
theorem sx_mk {prog : Program} {K : Frag} {st : PySem.Stmt} {C fI cc cda td : Addr} {nm qn : Str} {N : Addr} {bs bm : List Value} {sn : List Str} {sub : List Value} {ab : Bool} {col : Option Bool} {dd : Option Addr} {k0 k1 k2 k3 k5 : Option Value}
    {q : Str} {oc doc pm ct ccl cl to : Value} {od an cdd cld tod : Option Addr} {osl ccs csl tsl : Array (Option Value)} {vs : Array Value} {file : Str} {tf : Tok} {tn : Nat}
    (hB : defBody st = MPX.iBody (bodyPos (defBody st))) (hP : defArgs st = MPX.iPar (parPos (defArgs st))) (hS : defScope st = MPX.iSc) (hL : ((bodyPos (defBody st) 2).endLine == (bodyPos (defBody st) 3).line) = true) (top : (prog.main.scope.names.lookup ("super" : Str)).isSome = false)
    (lC : K.lookup C = some (excClassObj nm qn C N bs bm true sn sub ab col dd k0 k1 k2 k3 k5 "ValueError.__new__")) (rv : PySem.HandSPX.refsVE bm = true) (b : sxB K C = true)
    (i1 : findIn K (.ref C) "__init__" = some (some (.ref fI))) (ti : typeIn K (.ref fI) = some (.type "function"))
    (lf : K.lookup fI = some ⟨oc, od, .func (ksFn "__init__" q (defArgs st) (defBody st) (defScope st) (.ref td) .none doc pm an (.ref cda) ct cc), osl⟩) (cq : codeIn K (.ref cda) q = true)
    (lc : K.lookup cda = some ⟨ccl, cdd, .fields vs, ccs⟩) (hvs : vs[2]? = some (.str file tf)) (hf : ((prog.main.file : Str) == file) = true) (lcell : K.lookup cc = some ⟨cl, cld, .cell (some (.ref C)), csl⟩) (ltd : K.lookup td = some ⟨to, tod, .seq #[.none] tn, tsl⟩) : MPX.SxT prog K C := by
  unfold sxB at b
  simp only [Bool.and_eq_true, decide_eq_true_eq] at b
  obtain ⟨⟨⟨⟨⟨⟨⟨⟨⟨⟨b1, b2⟩, b3⟩, b4⟩, b5⟩, b6⟩, b7⟩, b8⟩, b9⟩, b10⟩, b11⟩ := b
  rw [hB, hP, hS] at lf
  exact ⟨⟨nm, qn, N, bs, bm, sn, sub, ab, col, dd, k0, k1, k2, k3, k5, lC, rv⟩, b1, b2, b3, b4, b5, b6, b7, b8, b9, b10, b11, top,
    ⟨fI, cc, cda, q, oc, od, td, doc, pm, an, ct, osl, _, _, i1, ti, lf, cq, hL, ⟨ccl, cdd, vs, ccs, file, tf, lc, hvs, hf⟩, ⟨cl, cld, csl, lcell⟩, ⟨to, tod, tsl, tn, ltd⟩⟩⟩
/-- what isinstance, == and .value ask of the errors' classes -/
def exB (K : Frag) (C : Addr) (v : Bool) : Bool :=
  decide (findIn K (.ref C) "__getattribute__" = some (some (.builtin "BaseException.__getattribute__"))) && decide (findIn K (.ref C) "__getattr__" = some none) && decide (subIn K (.ref C) (.type "BaseException") = some true) && hasDictIn K C &&
  decide (findIn K (.ref C) "__class__" = some (some (.builtin "object.__class__"))) && decide (specialIn K (.builtin "object.__class__") "__get__" = some (some (.builtin "getset_descriptor.__get__"))) && decide (takesIn K (.builtin "object.__class__") = some true) &&
  decide (mroIn K C (.type "object") = some true) && decide (findIn K (.ref C) "__eq__" = some (some (.builtin "object.__eq__"))) && (!v || decide (findIn K (.ref C) "value" = some none))
def kitB (K : Frag) (n : Nat) (cl : Nat → Addr) (gd : Gd) : Bool :=
  (List.range n).all fun c => exB K (cl c) (gd.hv c) && decide (gd.sub c (.ty "ValueError") = kitOne K (.ref (cl c)) (.type "ValueError")) && ((List.range n).all fun j => decide (gd.sub c (.own j) = kitOne K (.ref (cl c)) (.ref (cl j)))) &&
    (tyAll.all fun a => decide (kitOne K (.type a) (.ref (cl c)) = some false))
theorem gdOk_mk {K : Frag} {G : Gb} {gd : Gd} {n : Nat} (hK : G.K = K) (hv : ∀ c, gd.hv c = G.hv c) (hex : ∀ c, gd.ex c = true → c < n) (hsub : ∀ c t b, gd.sub c t = some b → c < n ∧ gd.ex c = true ∧ match t with | .own j => j < n | .ty s => s = "ValueError")
    (h : kitB K n G.cl gd = true) : GdOk G gd := by
  subst hK
  unfold kitB at h
  have key : ∀ c, c < n → exB G.K (G.cl c) (gd.hv c) = true ∧ gd.sub c (.ty "ValueError") = kitOne G.K (.ref (G.cl c)) (.type "ValueError") ∧ (∀ j, j < n → gd.sub c (.own j) = kitOne G.K (.ref (G.cl c)) (.ref (G.cl j))) ∧ ∀ a ∈ tyAll, kitOne G.K (.type a) (.ref (G.cl c)) = some false := fun c hc => by
    rw [List.all_eq_true] at h
    have := h c (List.mem_range.mpr hc)
    simp only [Bool.and_eq_true, decide_eq_true_eq, List.all_eq_true, List.mem_range] at this
    exact ⟨this.1.1.1, this.1.1.2, this.1.2, this.2⟩
  refine ⟨hv, fun c hc => ?_, fun c t b e => ?_, fun a ha j hj => (key j (hex j hj)).2.2.2 a ha⟩
  · have e := (key c (hex c hc)).1
    unfold exB at e
    simp only [Bool.and_eq_true, decide_eq_true_eq, Bool.or_eq_true, Bool.not_eq_true'] at e
    obtain ⟨⟨⟨⟨⟨⟨⟨⟨⟨e1, e2⟩, e3⟩, e4⟩, e5⟩, e6⟩, e7⟩, e8⟩, e9⟩, e10⟩ := e
    refine ⟨⟨e1, e2, e3, e4, e5, e6, e7, e8⟩, fun v => ⟨⟨e1, e2, e3, e4⟩, ?_⟩, e8, e9⟩
    rcases e10 with z | z
    · rw [hv, v] at z; cases z
    · exact z
  · obtain ⟨h1, h2, h3⟩ := hsub c t b e
    refine ⟨h2, ?_⟩
    cases t with
    | own j => rw [← (key c h1).2.2.1 j h3]; exact e
    | ty s =>
      have h3 : s = "ValueError" := h3
      subst h3
      rw [← (key c h1).2.1]; exact e
/-- a def of the module: its promise's place -/
theorem fn_at {K : Frag} {mg : Str → Option Value} {h : Heap} {t : Df} {np : Nat} {f : Addr} {oc kV doc pm cdv ct : Value} {od an : Option Addr} {osl : Array (Option Value)} (KX : K.In h) (G : h.Ns mainGlobals mg)
    (a : nsIn K mainGlobals t.x = some (some (.ref f))) (l : K.lookup f = some ⟨oc, od, .func (fnOf t.x t.x (defArgs t.st) (defBody t.st) (defScope t.st) .none kV doc pm an cdv ct), osl⟩) (c : codeIn K cdv t.x = true) (k : keepIn K (.ref f) = true)
    (b : ∀ (kV doc pm : Value) (an : Option Addr) (cdv ct : Value) (us : List Value), us.length = (t.N.take np).length → bindArgs (fnOf t.x t.x (defArgs t.st) (defBody t.st) (defScope t.st) .none kV doc pm an cdv ct) ⟨us, []⟩ = pure ((t.N.take np).zip us)) :
    ∃ f fd, Fun K t.x t.x t.st f fd ∧ mg t.x = some (.ref f) ∧ Binds K fd (t.N.take np) [] := by
  have F := fun_mk (st := t.st) l c k
  exact ⟨f, _, F, mg_of KX G a, F.binds b⟩
end MP
namespace MP
open PySem L2 PyProof.Rows PySem.Spec PySem.W
structure FnF (K : Frag) (t : Df) : Prop where
  ex : ∃ (f : Addr) (oc kV doc pm cdv ct : Value) (od an : Option Addr) (osl : Array (Option Value)), nsIn K mainGlobals t.x = some (some (.ref f)) ∧
    K.lookup f = some ⟨oc, od, .func (fnOf t.x t.x (defArgs t.st) (defBody t.st) (defScope t.st) .none kV doc pm an cdv ct), osl⟩ ∧ codeIn K cdv t.x = true ∧ keepIn K (.ref f) = true
theorem fnF_mk {K : Frag} {t : Df} {f : Addr} {oc kV doc pm cdv ct : Value} {od an : Option Addr} {osl : Array (Option Value)} (a : nsIn K mainGlobals t.x = some (some (.ref f)))
    (l : K.lookup f = some ⟨oc, od, .func (fnOf t.x t.x (defArgs t.st) (defBody t.st) (defScope t.st) .none kV doc pm an cdv ct), osl⟩) (c : codeIn K cdv t.x = true) (k : keepIn K (.ref f) = true) : FnF K t := ⟨⟨f, oc, kV, doc, pm, cdv, ct, od, an, osl, a, l, c, k⟩⟩
structure ClX (prog : Program) (K : Frag) (x : Str) (v : Bool) : Prop where
  ex : ∃ C, nsIn K mainGlobals x = some (some (.ref C)) ∧ ClF prog K C v
theorem clX0 {prog : Program} {K : Frag} {x : Str} {C : Addr} (a : nsIn K mainGlobals x = some (some (.ref C))) (k : keepIn K (.ref C) = true) (e : excIn K C PySem.HandSPX.veTail "ValueError.__new__" = true) : ClX prog K x false := ⟨⟨C, a, k, e⟩⟩
theorem clX1 {prog : Program} {K : Frag} {x : Str} {C : Addr} (a : nsIn K mainGlobals x = some (some (.ref C))) (s : MPX.SxT prog K C) : ClX prog K x true := ⟨⟨C, a, s.kC, s⟩⟩
def GlOk (G0 : Gb) (w : W) (x : Str) : Prop := ∃ u v, nsIn G0.K mainGlobals x = some (some u) ∧ absV u = some v ∧ RelV v u ∧ ∀ ι F, WR G0 ι F w v
theorem clOf_eq {K : Frag} {x : Str} {C : Addr} (a : nsIn K mainGlobals x = some (some (.ref C))) : clOf K x = C := by unfold clOf; rw [a]
theorem gl_cls {prog : Program} {T : Tab} {gd : Gd} {K : Frag} {x : Str} {j : Nat} {v : Bool} (c : ClX prog K x v) (e : T.cls.getD j "" = x) : GlOk (g0Of T gd K) (.cls j) x := by
  obtain ⟨C, a, _⟩ := c.ex
  refine ⟨.ref C, .ref C, a, rfl, rfl, fun ι F => ?_⟩
  show V.ref C = V.ref (clOf K (T.cls.getD j ""))
  rw [e, clOf_eq a]
theorem ent_of {prog : Program} {w : World} {K : Frag} {h : Heap} {mg : Str → Option Value} {T : Tab} {fs : List Fn} {ts : List Df} {gd : Gd} (KX : K.In h) (G : h.Ns mainGlobals mg)
    (hlen : ts.length = fs.length) (hx : T.fns = ts.map Df.x) (hdf : ∀ (i : Nat) (d : Fn) (t : Df), fs[i]? = some d → ts[i]? = some t → dfOk T d t = true) (hf : ∀ t ∈ ts, FnF K t)
    (hb : ∀ (i : Nat) (t : Df) (d : Fn), ts[i]? = some t → fs[i]? = some d → ∀ (kV doc pm : Value) (an : Option Addr) (cdv ct : Value) (us : List Value), us.length = (t.N.take d.np).length →
      bindArgs (fnOf t.x t.x (defArgs t.st) (defBody t.st) (defScope t.st) .none kV doc pm an cdv ct) ⟨us, []⟩ = pure ((t.N.take d.np).zip us))
    (hc : ∀ (i : Nat) (x : Str), T.cls[i]? = some x → ClX prog K x (gd.hv i)) (hg : ∀ (i : Nat) (x : Str), T.glbs[i]? = some x → GlOk (g0Of T gd K) (gd.v i) x) (hg0 : ∀ i, T.glbs[i]? = none → gd.v i = .d .none)
    (hgd : GdOk (g0Of T gd K) gd) (hblt : ∀ b : Bi, nsIn K mainGlobals b.name = some none) (htys : ∀ t ∈ tyNames, nsIn K mainGlobals (Str.ofString t) = some none) (hr : nsIn K mainGlobals "range" = some none) (he : nsIn K mainGlobals "enumerate" = some none) (hz : nsIn K mainGlobals "zip" = some none) :
    Ent prog w (g0Of T gd K) mg T fs ts gd (gvsOf T K) where
  ok := hdf
  len := by rw [hx, List.length_map, hlen]; exact ⟨rfl, rfl⟩
  fn := fun i t d ht hd => by
    refine ⟨by rw [hx, List.getElem?_map, ht]; rfl, ?_⟩
    obtain ⟨f, oc, kV, doc, pm, cdv, ct, od, an, osl, a, l, c, k⟩ := (hf t (List.mem_of_getElem? ht)).ex
    exact fn_at KX G a l c k (hb i t d ht hd)
  glb := fun i x hi => by
    obtain ⟨u, v, a, b, r, _⟩ := hg i x hi
    refine ⟨u, mg_of KX G a, ?_⟩
    have e : gvsOf T K i = v := by
      unfold gvsOf
      rw [hi]
      show gvOf K x = v
      unfold gvOf
      have a' : nsIn K mainGlobals x = some (some u) := a
      rw [a']
      show (absV u).getD .non = v
      rw [b]
      rfl
    rw [e]
    exact r
  gl := fun i ι F => by
    cases hi : T.glbs[i]? with
    | none =>
      rw [hg0 i hi]
      unfold gvsOf
      rw [hi]
      exact At.non
    | some x =>
      obtain ⟨u, v, a, b, r, q⟩ := hg i x hi
      have e : gvsOf T K i = v := by
        unfold gvsOf
        rw [hi]
        show gvOf K x = v
        unfold gvOf
        have a' : nsIn K mainGlobals x = some (some u) := a
        rw [a']
        show (absV u).getD .non = v
        rw [b]
        rfl
      rw [e]
      exact q ι F
  gd := hgd
  cls := fun i x hi => by
    obtain ⟨C, a, c⟩ := (hc i x hi).ex
    have e : (g0Of T gd K).cl i = C := by
      show clOf K (T.cls.getD i "") = C
      rw [List.getD_eq_getElem?_getD, hi]
      exact clOf_eq a
    rw [e]
    exact ⟨mg_of KX G a, c⟩
  blt := fun b => mg_none_of KX G (hblt b)
  tys := fun t ht => mg_none_of KX G (htys t ht)
  rng := mg_none_of KX G hr
  enu := mg_none_of KX G he
  zp := mg_none_of KX G hz
end MP
namespace Law
open PySem MP
def i (x : Int) : ME := .cst (.int x)
def s (x : Str) : ME := .cst (.str x)
def v (n : Nat) : ME := .var n
def es : List ME → MEs | [] => .nil | a :: r => .cons a (es r)
def ss : List MS → MSs | [] => .nil | a :: r => .cons a (ss r)
def top (n : Nat) : Stmt := PySem.Challenge.pw_depthquestions_k01_errors_by_their_class.main.body.getD n (.Pass ⟨0, 0, 0, 0⟩)
/-- _law_cell -/
def b0 : MSs := ss [(.ife (.op .lt false (v 1) (.bi .len false (es [(v 0)]))) (ss [(.ret (.ix (v 0) (v 1)))]) (ss [])), (.ret (.op .mod false (.bi .sum false (es [(.sl (v 0) .none (.some (i 1)))])) (i 1000003)))]
def f0 : Fn := ⟨2, 2, b0, false⟩
def d0 : Df := ⟨"_law_cell", top 19, ["script", "index"]⟩
/-- _law_generator -/
def b1 : MSs := ss [(.asg (.nm 2) (.call 0 (es [(v 0), (v 1)]))), (.ret (.lst true (es [(.op .mod false (.bi .int false (es [(.bi .max2 false (es [(.op .sub false (v 2) (.op .pow false (i 10) (i 18))), (i 0)]))])) (.op .pow false (.op .pow false (i 10) (i 60)) (i 10))), (.op .mod false (.bi .int false (es [(v 2)])) (i 2147483647)), (.op .mul false (i 1000) (v 1))])))]
def f1 : Fn := ⟨2, 3, b1, true⟩
def d1 : Df := ⟨"_law_generator", top 20, ["script", "index", "seed"]⟩
/-- _law_hash -/
def b2 : MSs := ss [(.asg (.nm 2) (.op .mod false (.bi .int false (es [(.op .add false (.op .add false (.op .add false (.op .mul false (v 0) (i 1140671)) (.op .mul false (.op .mul false (i 27644437) (v 1)) (v 1))) (.op .mul false (i 131) (v 1))) (i 19))])) (i 2147483629))), (.asg (.nm 2) (.op .mod false (.bi .int false (es [(.op .add false (.op .add false (.op .mul false (v 2) (v 2)) (.op .mul false (i 62089) (v 1))) (i 32416187))])) (i 2147483587))), (.ret (.op .mod false (.bi .int false (es [(.op .mul false (v 2) (i 48271))])) (i 2147483647)))]
def f2 : Fn := ⟨2, 3, b2, false⟩
def d2 : Df := ⟨"_law_hash", top 17, ["seed", "index", "mixed"]⟩
/-- _law_random -/
def b3 : MSs := ss [(.ife (.op .gt false (.ix (v 0) (i 0)) (i 0)) (ss [(.asg (.nm 2) (.op .mod false (.bi .int false (es [(.ix (v 0) (i 0))])) (v 1))), (.asg (.sub (v 0) (i 0)) (.op .fdiv false (.ix (v 0) (i 0)) (v 1))), (.ret (v 2))]) (ss [])), (.asg (.nm 2) (i 0)), (.fors (.nm 3) .range1 (es [(.op .add false (i 1) (.op .fdiv false (.bits (v 1)) (i 30)))]) (ss [(.asg (.sub (v 0) (i 2)) (.op .add false (.ix (v 0) (i 2)) (i 1))), (.asg (.nm 2) (.op .add false (.op .mul false (v 2) (i 2147483587)) (.call 2 (es [(.ix (v 0) (i 1)), (.ix (v 0) (i 2))]))))])), (.ret (.op .mod false (.bi .int false (es [(v 2)])) (v 1)))]
def f3 : Fn := ⟨2, 4, b3, false⟩
def d3 : Df := ⟨"_law_random", top 18, ["generator", "bound", "drawn", "turn"]⟩
/-- _law_first -/
def b4 : MSs := ss [(.ife (.op .eq false (v 0) (i 0)) (ss [(.ret (.mk 1 (es [(v 1)]) false))]) (ss [])), (.ife (.op .eq false (v 0) (i 1)) (ss [(.ret (.mk 2 (es [(v 1)]) false))]) (ss [])), (.ife (.op .eq false (v 0) (i 2)) (ss [(.ret (.mk 3 (es [(v 1)]) false))]) (ss [])), (.ife (.op .eq false (v 0) (i 3)) (ss [(.ret (.mk 4 (es [(v 1)]) false))]) (ss [])), (.ife (.op .eq false (v 0) (i 4)) (ss [(.ret (.mk 5 (es [(v 1)]) false))]) (ss [])), (.ife (.op .eq false (v 0) (i 5)) (ss [(.ret (.mk 6 (es [(v 1)]) false))]) (ss [])), (.ret (.cst .non))]
def f4 : Fn := ⟨2, 2, b4, false⟩
def d4 : Df := ⟨"_law_first", top 21, ["which", "value"]⟩
/-- _law_second -/
def b5 : MSs := ss [(.ife (.op .eq false (v 0) (i 6)) (ss [(.ret (.mk 7 (es [(v 1)]) false))]) (ss [])), (.ife (.op .eq false (v 0) (i 7)) (ss [(.ret (.mk 8 (es [(v 1)]) false))]) (ss [])), (.ife (.op .eq false (v 0) (i 8)) (ss [(.ret (.mk 9 (es [(v 1)]) false))]) (ss [])), (.ife (.op .eq false (v 0) (i 9)) (ss [(.ret (.mk 10 (es [(v 1)]) false))]) (ss [])), (.ife (.op .eq false (v 0) (i 10)) (ss [(.ret (.mk 11 (es [(v 1)]) false))]) (ss [])), (.ife (.op .eq false (v 0) (i 11)) (ss [(.ret (.mk 12 (es [(v 1)]) false))]) (ss [])), (.ret (.cst .non))]
def f5 : Fn := ⟨2, 2, b5, false⟩
def d5 : Df := ⟨"_law_second", top 22, ["which", "value"]⟩
/-- _law_flags -/
def b6 : MSs := ss [(.asg (.nm 1) (.lst false (es [(.bi .isi false (es [(v 0), (.glb 1)])), (.bi .isi false (es [(v 0), (.glb 2)])), (.bi .isi false (es [(v 0), (.glb 3)])), (.bi .isi false (es [(v 0), (.glb 4)]))]))), (.asg (.nm 1) (.op .add false (v 1) (.lst false (es [(.bi .isi false (es [(v 0), (.glb 5)])), (.bi .isi false (es [(v 0), (.glb 6)])), (.bi .isi false (es [(v 0), (.glb 7)])), (.bi .isi false (es [(v 0), (.glb 8)]))])))), (.asg (.nm 1) (.op .add false (v 1) (.lst false (es [(.bi .isi false (es [(v 0), (.glb 9)])), (.bi .isi false (es [(v 0), (.glb 10)])), (.bi .isi false (es [(v 0), (.glb 11)])), (.bi .isi false (es [(v 0), (.glb 12)]))])))), (.ret (.op .add false (v 1) (.lst false (es [(.bi .isi false (es [(v 0), (.glb 13)])), (.bi .isi false (es [(v 0), (.glb 14)]))]))))]
def f6 : Fn := ⟨1, 2, b6, false⟩
def d6 : Df := ⟨"_law_flags", top 23, ["error", "found"]⟩
/-- law -/
def b7 : MSs := ss [(.asg (.nm 1) (.call 1 (es [(v 0), (i 0)]))), (.asg (.nm 2) (.ix (.lst false (es [(.call 3 (es [(v 1), (.op .pow false (i 10) (i 20))])), (.op .mul false (s "ab") (.call 3 (es [(v 1), (i 3)]))), (.lst true (es [(i 1), (.cst .non)])), (.cst .non), (.tup (es [(i 2), (.tup (es [(i 3)]))]))])) (.call 3 (es [(v 1), (i 5)])))), (.fors (.nm 3) .range1 (es [(i 12)]) (ss [(.asg (.nm 6) (.ife (.op .lt false (v 3) (i 6)) (.call 4 (es [(v 3), (v 2)])) (.call 5 (es [(v 3), (v 2)])))), (.ife (.or (.op .ne false (.call 6 (es [(v 6)])) (.comp false (.op .eq false (v 8) (v 3)) (.nm 8) .range1 (es [(i 14)]) .none [("place", 8)])) (.or (.not (.bi .isi false (es [(v 6), (.glb 0)]))) (.not (.bi .isi false (es [(v 6), (.ty "ValueError")]))))) (ss [(.ret (.cst (.bl false)))]) (ss [])), (.ife (.bi .isi false (es [(v 2), (.ty "list")])) (ss [(.expr (.mt .append (v 2) (es [(v 3)])))]) (ss [])), (.ife (.not (.op .eq false (.val (v 6)) (v 2))) (ss [(.ret (.cst (.bl false)))]) (ss []))])), (.asg (.nm 4) (.lst false (es [(.val (.mk 1 .nil false)), (.val (.mk 2 .nil false)), (.val (.mk 3 .nil false)), (.val (.mk 4 .nil false)), (.val (.mk 5 .nil false)), (.val (.mk 6 .nil false))]))), (.asg (.nm 4) (.op .add false (v 4) (.lst false (es [(.val (.mk 7 .nil false)), (.val (.mk 8 .nil false)), (.val (.mk 9 .nil false)), (.val (.mk 10 .nil false)), (.val (.mk 11 .nil false)), (.val (.mk 12 .nil false))])))), (.ife (.or (.op .ne false (.comp false (v 7) (.nm 7) .list (es [(v 4)]) (.some (.op .isn false (v 7) (.cst .non))) [("field", 7)]) (.lst false (es []))) (.or (.op .ne false (.val (.mk 12 (es [(i 7)]) true)) (i 7)) (.op .ne false (.val (.mk 5 (es [(.tup (es [(i 1)]))]) true)) (.tup (es [(i 1)]))))) (ss [(.ret (.cst (.bl false)))]) (ss [])), (.ife (.or (.op .ne false (.call 6 (es [(.mk 13 .nil false)])) (.comp false (.op .eq false (v 8) (i 12)) (.nm 8) .range1 (es [(i 14)]) .none [("place", 8)])) (.op .ne false (.call 6 (es [(.mk 14 .nil false)])) (.comp false (.op .eq false (v 8) (i 13)) (.nm 8) .range1 (es [(i 14)]) .none [("place", 8)]))) (ss [(.ret (.cst (.bl false)))]) (ss [])), (.asg (.nm 5) (.lst false (es [(.val (.mk 1 (es [(i 7)]) true)), (.val (.mk 2 (es [(i 7)]) true)), (.val (.mk 3 (es [(i 7)]) true)), (.val (.mk 4 (es [(i 7)]) true))]))), (.asg (.nm 5) (.op .add false (v 5) (.lst false (es [(.val (.mk 5 (es [(i 7)]) true)), (.val (.mk 6 (es [(i 7)]) true)), (.val (.mk 7 (es [(i 7)]) true)), (.val (.mk 8 (es [(i 7)]) true))])))), (.asg (.nm 5) (.op .add false (v 5) (.lst false (es [(.val (.mk 9 (es [(i 7)]) true)), (.val (.mk 10 (es [(i 7)]) true)), (.val (.mk 11 (es [(i 7)]) true)), (.val (.mk 12 (es [(i 7)]) true))])))), (.ife (.op .ne false (v 5) (.op .mul false (.lst false (es [(i 7)])) (i 12))) (ss [(.ret (.cst (.bl false)))]) (ss [])), (.ife (.or (.op .isn false (.eqX (.mk 3 (es [(i 3)]) false) (.mk 3 (es [(i 3)]) false)) (.cst (.bl false))) (.op .isn false (.eqX (.mk 13 .nil false) (.mk 13 .nil false)) (.cst (.bl false)))) (ss [(.ret (.cst (.bl false)))]) (ss [])), (.ret (.and (.bi .isi false (es [(.mk 13 .nil false), (.glb 0)])) (.and (.bi .isi false (es [(.mk 14 .nil false), (.glb 0)])) (.bi .isi false (es [(.mk 0 .nil false), (.ty "ValueError")])))))]
def f7 : Fn := ⟨1, 9, b7, false⟩
def d7 : Df := ⟨"law", top 24, ["script", "generator", "value", "which", "bare", "named", "error", "field", "place"]⟩
def T : Tab := ⟨["_law_cell", "_law_generator", "_law_hash", "_law_random", "_law_first", "_law_second", "_law_flags", "law"], ["StoreError", "InvalidStore", "InvalidQuestion", "InvalidName", "InvalidItem", "InvalidFact", "InvalidNumber", "InvalidList", "InvalidText", "InvalidPaper", "InvalidFlag", "Unlike", "TooMany", "NothingToUndo", "NothingToRedo"], ["StoreError", "InvalidStore", "InvalidQuestion", "InvalidName", "InvalidItem", "InvalidFact", "InvalidNumber", "InvalidList", "InvalidText", "InvalidPaper", "InvalidFlag", "Unlike", "TooMany", "NothingToUndo", "NothingToRedo"]⟩
def fs : List Fn := [f0, f1, f2, f3, f4, f5, f6, f7]
def ts : List Df := [d0, d1, d2, d3, d4, d5, d6, d7]
def gvs : List W := [.cls 0, .cls 1, .cls 2, .cls 3, .cls 4, .cls 5, .cls 6, .cls 7, .cls 8, .cls 9, .cls 10, .cls 11, .cls 12, .cls 13, .cls 14]
def anc : List (List Nat) := [[0], [1, 0], [2, 0], [3, 0], [4, 0], [5, 0], [6, 0], [7, 0], [8, 0], [9, 0], [10, 0], [11, 0], [12, 0], [13, 0], [14, 0]]
def hvs : List Bool := [false, true, true, true, true, true, true, true, true, true, true, true, true, false, false]
def gd : Gd := { v := fun n => gvs.getD n (.d .none), ex := fun c => decide (c < 15), hv := fun c => hvs.getD c false, sub := fun c t => if c < 15 then (match t with | .own j => if j < 15 then some (decide (j ∈ anc.getD c [])) else none | .ty x => if x = "ValueError" then some true else none) else none }
end Law
namespace Law
open PySem MP L2 PyProof.Rows PySem.W
theorem c0 : dfOk T f0 d0 = true := by decide +kernel
theorem c1 : dfOk T f1 d1 = true := by decide +kernel
theorem c2 : dfOk T f2 d2 = true := by decide +kernel
theorem c3 : dfOk T f3 d3 = true := by decide +kernel
theorem c4 : dfOk T f4 d4 = true := by decide +kernel
theorem c5 : dfOk T f5 d5 = true := by decide +kernel
theorem c6 : dfOk T f6 d6 = true := by decide +kernel
theorem c7 : dfOk T f7 d7 = true := by decide +kernel
theorem chk : ∀ (i : Nat) (d : Fn) (t : Df), fs[i]? = some d → ts[i]? = some t → dfOk T d t = true
  | 0, _, _, h1, h2 => by cases h1; cases h2; exact c0
  | 1, _, _, h1, h2 => by cases h1; cases h2; exact c1
  | 2, _, _, h1, h2 => by cases h1; cases h2; exact c2
  | 3, _, _, h1, h2 => by cases h1; cases h2; exact c3
  | 4, _, _, h1, h2 => by cases h1; cases h2; exact c4
  | 5, _, _, h1, h2 => by cases h1; cases h2; exact c5
  | 6, _, _, h1, h2 => by cases h1; cases h2; exact c6
  | 7, _, _, h1, h2 => by cases h1; cases h2; exact c7
  | _ + 8, _, _, h1, _ => by simp [fs] at h1
theorem bnd : ∀ (i : Nat) (t : Df) (d : Fn), ts[i]? = some t → fs[i]? = some d → ∀ (kV doc pm : Value) (an : Option Addr) (cdv ct : Value) (us : List Value), us.length = (t.N.take d.np).length →
      bindArgs (fnOf t.x t.x (defArgs t.st) (defBody t.st) (defScope t.st) .none kV doc pm an cdv ct) ⟨us, []⟩ = pure ((t.N.take d.np).zip us)
  | 0, _, _, h1, h2 => by
    cases h1; cases h2
    intro _ _ _ _ _ _ us hl
    match us, hl with
    | [_, _], _ => rfl
  | 1, _, _, h1, h2 => by
    cases h1; cases h2
    intro _ _ _ _ _ _ us hl
    match us, hl with
    | [_, _], _ => rfl
  | 2, _, _, h1, h2 => by
    cases h1; cases h2
    intro _ _ _ _ _ _ us hl
    match us, hl with
    | [_, _], _ => rfl
  | 3, _, _, h1, h2 => by
    cases h1; cases h2
    intro _ _ _ _ _ _ us hl
    match us, hl with
    | [_, _], _ => rfl
  | 4, _, _, h1, h2 => by
    cases h1; cases h2
    intro _ _ _ _ _ _ us hl
    match us, hl with
    | [_, _], _ => rfl
  | 5, _, _, h1, h2 => by
    cases h1; cases h2
    intro _ _ _ _ _ _ us hl
    match us, hl with
    | [_, _], _ => rfl
  | 6, _, _, h1, h2 => by
    cases h1; cases h2
    intro _ _ _ _ _ _ us hl
    match us, hl with
    | [_], _ => rfl
  | 7, _, _, h1, h2 => by
    cases h1; cases h2
    intro _ _ _ _ _ _ us hl
    match us, hl with
    | [_], _ => rfl
  | _ + 8, _, _, h1, _ => by simp [ts] at h1
theorem bndL (K : Frag) : ∀ (f : Addr) (fd : FuncData) (dL : Fn) (tL : Df), fs[7]? = some dL → ts[7]? = some tL → L2.Fun K tL.x tL.x tL.st f fd → ∀ (s : Shared) (u : Value), BindsTo s fd ⟨[u], []⟩ [("script", u)] := by
  intro f fd dL tL h1 h2 F s u
  cases h1; cases h2
  obtain ⟨oc, od, kV, doc, pm, an, cdv, ct, osl, rfl, _⟩ := F.ex
  exact .of_eq rfl
theorem ent {prog : Program} {w : World} {K : Frag} {h : Heap} {mg : Str → Option Value} (KX : K.In h) (G : h.Ns mainGlobals mg)
    (F0 : FnF K d0)
    (F1 : FnF K d1)
    (F2 : FnF K d2)
    (F3 : FnF K d3)
    (F4 : FnF K d4)
    (F5 : FnF K d5)
    (F6 : FnF K d6)
    (F7 : FnF K d7)
    (X0 : ClX prog K "StoreError" false)
    (X1 : ClX prog K "InvalidStore" true)
    (X2 : ClX prog K "InvalidQuestion" true)
    (X3 : ClX prog K "InvalidName" true)
    (X4 : ClX prog K "InvalidItem" true)
    (X5 : ClX prog K "InvalidFact" true)
    (X6 : ClX prog K "InvalidNumber" true)
    (X7 : ClX prog K "InvalidList" true)
    (X8 : ClX prog K "InvalidText" true)
    (X9 : ClX prog K "InvalidPaper" true)
    (X10 : ClX prog K "InvalidFlag" true)
    (X11 : ClX prog K "Unlike" true)
    (X12 : ClX prog K "TooMany" true)
    (X13 : ClX prog K "NothingToUndo" false)
    (X14 : ClX prog K "NothingToRedo" false)
    (z_len : nsIn K mainGlobals "len" = some none)
    (z_isinstance : nsIn K mainGlobals "isinstance" = some none)
    (z_max : nsIn K mainGlobals "max" = some none)
    (z_sum : nsIn K mainGlobals "sum" = some none)
    (z_sorted : nsIn K mainGlobals "sorted" = some none)
    (z_int : nsIn K mainGlobals "int" = some none)
    (z_list : nsIn K mainGlobals "list" = some none)
    (z_tuple : nsIn K mainGlobals "tuple" = some none)
    (z_repr : nsIn K mainGlobals "repr" = some none)
    (z_set : nsIn K mainGlobals "set" = some none)
    (z_bool : nsIn K mainGlobals "bool" = some none)
    (z_str : nsIn K mainGlobals "str" = some none)
    (z_dict : nsIn K mainGlobals "dict" = some none)
    (z_ValueError : nsIn K mainGlobals "ValueError" = some none)
    (z_range : nsIn K mainGlobals "range" = some none)
    (z_enumerate : nsIn K mainGlobals "enumerate" = some none)
    (z_zip : nsIn K mainGlobals "zip" = some none)
    (kit : kitB K 15 (fun i => clOf K (T.cls.getD i "")) gd = true) :
    Ent prog w (g0Of T gd K) mg T fs ts gd (gvsOf T K) := by
  have hc : ∀ (i : Nat) (x : Str), T.cls[i]? = some x → ClX prog K x (gd.hv i) := fun i x h => by
    rcases i with _ | i
    · cases h; exact X0
    rcases i with _ | i
    · cases h; exact X1
    rcases i with _ | i
    · cases h; exact X2
    rcases i with _ | i
    · cases h; exact X3
    rcases i with _ | i
    · cases h; exact X4
    rcases i with _ | i
    · cases h; exact X5
    rcases i with _ | i
    · cases h; exact X6
    rcases i with _ | i
    · cases h; exact X7
    rcases i with _ | i
    · cases h; exact X8
    rcases i with _ | i
    · cases h; exact X9
    rcases i with _ | i
    · cases h; exact X10
    rcases i with _ | i
    · cases h; exact X11
    rcases i with _ | i
    · cases h; exact X12
    rcases i with _ | i
    · cases h; exact X13
    rcases i with _ | i
    · cases h; exact X14
    · simp [T] at h
  refine ent_of KX G rfl rfl chk (fun t ht => ?_) bnd hc (fun i x h => ?_) (fun i h => ?_) (gdOk_mk (n := 15) rfl (fun _ => rfl) (fun c h => of_decide_eq_true h) (fun c t b h => ?_) kit) (fun b => ?_) (fun t ht => ?_) z_range z_enumerate z_zip
  · simp only [ts, List.mem_cons, List.not_mem_nil, or_false] at ht
    rcases ht with rfl | rfl | rfl | rfl | rfl | rfl | rfl | rfl
    · exact F0
    · exact F1
    · exact F2
    · exact F3
    · exact F4
    · exact F5
    · exact F6
    · exact F7
  · skip
    rcases i with _ | i
    · cases h; exact gl_cls X0 rfl
    rcases i with _ | i
    · cases h; exact gl_cls X1 rfl
    rcases i with _ | i
    · cases h; exact gl_cls X2 rfl
    rcases i with _ | i
    · cases h; exact gl_cls X3 rfl
    rcases i with _ | i
    · cases h; exact gl_cls X4 rfl
    rcases i with _ | i
    · cases h; exact gl_cls X5 rfl
    rcases i with _ | i
    · cases h; exact gl_cls X6 rfl
    rcases i with _ | i
    · cases h; exact gl_cls X7 rfl
    rcases i with _ | i
    · cases h; exact gl_cls X8 rfl
    rcases i with _ | i
    · cases h; exact gl_cls X9 rfl
    rcases i with _ | i
    · cases h; exact gl_cls X10 rfl
    rcases i with _ | i
    · cases h; exact gl_cls X11 rfl
    rcases i with _ | i
    · cases h; exact gl_cls X12 rfl
    rcases i with _ | i
    · cases h; exact gl_cls X13 rfl
    rcases i with _ | i
    · cases h; exact gl_cls X14 rfl
    · simp [T] at h
  · show gvs.getD i (.d .none) = _
    rw [List.getD_eq_getElem?_getD]
    have hl : gvs.length ≤ i := by
      have := List.getElem?_eq_none_iff.mp h
      exact this
    rw [List.getElem?_eq_none_iff.mpr hl]
    rfl
  · dsimp only [gd] at h
    split at h
    · rename_i hc
      refine ⟨hc, decide_eq_true hc, ?_⟩
      split at h
      · split at h
        · assumption
        · cases h
      · split at h
        · assumption
        · cases h
    · cases h
  · cases b
    · exact z_len
    · exact z_isinstance
    · exact z_max
    · exact z_sum
    · exact z_sorted
    · exact z_int
    · exact z_list
    · exact z_tuple
    · exact z_repr
    · exact z_set
  · simp only [tyNames, List.mem_cons, List.not_mem_nil, or_false] at ht
    rcases ht with rfl | rfl | rfl | rfl | rfl | rfl | rfl
    · exact z_int
    · exact z_bool
    · exact z_str
    · exact z_list
    · exact z_tuple
    · exact z_dict
    · exact z_ValueError
end Law
namespace MP
open PySem
/-! ## words for the plain part -/
def fin (raw : Bool) (n : Nat) (r : RS) : R W := match r with
  | .ret w S' => leaveW raw n w S'
  | .next _ S' => leaveW false n (.d .none) S'
  | .exc c v _ S' => (match leaveW false n v S' with | .ok w S2 => .exc c w S2 | _ => .bad)
  | _ => .bad
theorem run_eq {fs : List Fn} {gd : Gd} {wf n f : Nat} {ws : List W} {S : Sto} {d : Fn} (hd : fs[f]? = some d) (hl : ws.length = d.np) :
    runF fs gd wf (n + 1) f ws S = fin d.raw S.length (exSs (runF fs gd wf n) gd wf d.body (ws.map some ++ List.replicate (d.nn - ws.length) none) S) := by
  unfold runF
  rw [hd]
  simp only [hl, if_true]
  rfl
theorem bits_le {i : Int} {n : Nat} (h : i.natAbs < 2 ^ n) : Builtin.Int.intBits i ≤ n + 1 := by
  have b : Builtin.Int.intBits i ≤ i.natAbs.log2 + 1 := by
    unfold Builtin.Int.intBits
    split <;> omega
  by_cases h0 : i.natAbs = 0
  · rw [h0] at b
    have : Nat.log2 0 = 0 := by decide
    omega
  · have := (Nat.log2_lt h0).mpr h
    omega
/-- below 10 ^ 30 -/
def Small (i : Int) : Prop := -1000000000000000000000000000000 ≤ i ∧ i ≤ 1000000000000000000000000000000
theorem Small.bits {i : Int} (h : Small i) : Builtin.Int.intBits i ≤ 101 := by
  refine bits_le (n := 100) ?_
  have e : (2 : Nat) ^ 100 = 1267650600228229401496703205376 := by decide
  rw [e]
  have h1 := h.1
  have h2 := h.2
  omega
theorem mul_bits {i j : Int} (hi : Small i) (hj : Small j) : (Builtin.Int.intBits i : Int) + (Builtin.Int.intBits j : Int) ≤ 134217728 := by
  have := hi.bits
  have := hj.bits
  omega
theorem ev_mul {m : Bool} {i j : Int} {S : Sto} (hi : Small i) (hj : Small j) : op2 .mul m (.d (.int i)) (.d (.int j)) S = .ok (.d (.int (i * j))) S := by
  show (if _ then _ else _) = _
  exact if_pos (mul_bits hi hj)
theorem ev_add {m : Bool} {i j : Int} {S : Sto} : op2 .add m (.d (.int i)) (.d (.int j)) S = .ok (.d (.int (i + j))) S := rfl
theorem ev_sub {m : Bool} {i j : Int} {S : Sto} : op2 .sub m (.d (.int i)) (.d (.int j)) S = .ok (.d (.int (i - j))) S := rfl
theorem ev_gt {m : Bool} {i j : Int} {S : Sto} : op2 .gt m (.d (.int i)) (.d (.int j)) S = .ok (.d (.bool (decide (j < i)))) S := rfl
theorem ev_lt {m : Bool} {i j : Int} {S : Sto} : op2 .lt m (.d (.int i)) (.d (.int j)) S = .ok (.d (.bool (decide (i < j)))) S := rfl
theorem ev_mod {m : Bool} {i j : Int} {S : Sto} (hj : j ≠ 0) : op2 .mod m (.d (.int i)) (.d (.int j)) S = .ok (.d (.int (i.fmod j))) S := by
  show (if _ then _ else _) = _
  exact if_pos hj
theorem ev_fdiv {m : Bool} {i j : Int} {S : Sto} (h1 : 0 < j) (h2 : j.natAbs.log2 < 9000) : op2 .fdiv m (.d (.int i)) (.d (.int j)) S = .ok (.d (.int (i / j))) S := by
  show (if _ then _ else _) = _
  exact if_pos ⟨h1, h2⟩
theorem ev_gtT {m : Bool} {i j : Int} {S : Sto} (h : j < i) : op2 .gt m (.d (.int i)) (.d (.int j)) S = .ok (.d (.bool true)) S := by rw [ev_gt, decide_eq_true h]
theorem ev_gtF {m : Bool} {i j : Int} {S : Sto} (h : ¬ j < i) : op2 .gt m (.d (.int i)) (.d (.int j)) S = .ok (.d (.bool false)) S := by rw [ev_gt, decide_eq_false h]
theorem ev_ltT {m : Bool} {i j : Int} {S : Sto} (h : i < j) : op2 .lt m (.d (.int i)) (.d (.int j)) S = .ok (.d (.bool true)) S := by rw [ev_lt, decide_eq_true h]
theorem ev_ltF {m : Bool} {i j : Int} {S : Sto} (h : ¬ i < j) : op2 .lt m (.d (.int i)) (.d (.int j)) S = .ok (.d (.bool false)) S := by rw [ev_lt, decide_eq_false h]
theorem ev_addE {m : Bool} {i j x : Int} {S : Sto} (h : i + j = x) : op2 .add m (.d (.int i)) (.d (.int j)) S = .ok (.d (.int x)) S := by rw [ev_add, h]
end MP
namespace MP
open PySem
section
variable (F : Nat → List W → Sto → R W) (gd : Gd) (wf : Nat) (ρ : Rho) (S : Sto)
theorem evE_var (i : Nat) : evE F gd (.var i) ρ S = (match ρ[i]? with | some (some w) => .ok w S | _ => .bad) := rfl
theorem evE_cst (c : Cst) : evE F gd (.cst c) ρ S = .ok (.d c.D) S := rfl
theorem evE_glb (i : Nat) : evE F gd (.glb i) ρ S = .ok (gd.v i) S := rfl
theorem evE_ty (t : String) : evE F gd (.ty t) ρ S = .ok (.ty t) S := rfl
theorem evE_op (o : Op2) (m : Bool) (a b : ME) : evE F gd (.op o m a b) ρ S = (evE F gd a ρ S).bind fun x S => (evE F gd b ρ S).bind fun y S => op2 o m x y S := rfl
theorem evE_and (a b : ME) : evE F gd (.and a b) ρ S = (evE F gd a ρ S).bind fun x S => match tru S x with | some true => evE F gd b ρ S | some false => .ok x S | none => .bad := rfl
theorem evE_or (a b : ME) : evE F gd (.or a b) ρ S = (evE F gd a ρ S).bind fun x S => match tru S x with | some true => .ok x S | some false => evE F gd b ρ S | none => .bad := rfl
theorem evE_not (a : ME) : evE F gd (.not a) ρ S = (evE F gd a ρ S).bind fun x S => match tru S x with | some k => .ok (.d (.bool (!k))) S | none => .bad := rfl
theorem evE_ife (c a b : ME) : evE F gd (.ife c a b) ρ S = (evT F gd c ρ S).bind fun k S => if k then evE F gd a ρ S else evE F gd b ρ S := rfl
theorem evE_tup (l : MEs) : evE F gd (.tup l) ρ S = (evEs F gd l ρ S).bind fun ws S => if ws.length ≤ lim then mkT ws S else .bad := rfl
theorem evE_lst (m : Bool) (l : MEs) : evE F gd (.lst m l) ρ S = (evEs F gd l ρ S).bind fun ws S => if ws.length ≤ lim then mkL m ws S else .bad := rfl
theorem evE_ix (a b : ME) : evE F gd (.ix a b) ρ S = (evE F gd a ρ S).bind fun x S => (evE F gd b ρ S).bind fun y S => ixW x y S := rfl
theorem evE_sl (a : ME) (lo hi : MO) : evE F gd (.sl a lo hi) ρ S = (evE F gd a ρ S).bind fun x S => (evO F gd lo ρ S).bind fun l S => (evO F gd hi ρ S).bind fun h S => slW x l h S := rfl
theorem evE_bi (b : Bi) (m : Bool) (l : MEs) : evE F gd (.bi b m l) ρ S = (evEs F gd l ρ S).bind fun ws S => biW gd b m ws S := rfl
theorem evE_bits (a : ME) : evE F gd (.bits a) ρ S = (evE F gd a ρ S).bind fun x S => match x with | .d (.int i) => .ok (.d (.int (Builtin.Int.intBits i : Nat))) S | _ => .bad := rfl
theorem evE_call (f : Nat) (l : MEs) : evE F gd (.call f l) ρ S = (evEs F gd l ρ S).bind fun ws S => F f ws S := rfl
theorem evE_mt (k : Mt) (o : ME) (l : MEs) : evE F gd (.mt k o l) ρ S = (evE F gd o ρ S).bind fun x S => if (seqL S x).isSome then (evEs F gd l ρ S).bind fun ws S => mtW k x ws S else .bad := rfl
theorem evE_mk0 (c : Nat) (k : Bool) : evE F gd (.mk c .nil k) ρ S = if gd.ex c then .ok (.exn c (.d .none)) S else .bad := rfl
theorem evE_mk1 (c : Nat) (a : ME) (k : Bool) : evE F gd (.mk c (.cons a .nil) k) ρ S = if gd.hv c && gd.ex c then (evE F gd a ρ S).bind fun w S => .ok (.exn c w) S else .bad := rfl
theorem evE_val (a : ME) : evE F gd (.val a) ρ S = (evE F gd a ρ S).bind fun x S => valW gd x S := rfl
theorem evEs_nil : evEs F gd .nil ρ S = .ok [] S := rfl
theorem evEs_cons (a : ME) (r : MEs) : evEs F gd (.cons a r) ρ S = (evE F gd a ρ S).bind fun x S => (evEs F gd r ρ S).bind fun l S => .ok (x :: l) S := rfl
theorem evO_none : evO F gd .none ρ S = .ok none S := rfl
theorem evO_some (a : ME) : evO F gd (.some a) ρ S = (evE F gd a ρ S).bind fun x S => match x with | .d (.int i) => .ok (some i) S | _ => .bad := rfl
theorem evT_op (o : Op2) (m : Bool) (a b : ME) : evT F gd (.op o m a b) ρ S = (evE F gd a ρ S).bind fun x S => (evE F gd b ρ S).bind fun y S => (op2 o m x y S).bind fun w S =>
      if o.cmp.isSome then (match w with | .d (.bool k) => .ok k S | _ => .bad) else (match tru S w with | some k => .ok k S | none => .bad) := rfl
theorem evT_or (a b : ME) : evT F gd (.or a b) ρ S = (evT F gd a ρ S).bind fun k S => if k then .ok true S else evT F gd b ρ S := rfl
theorem evT_and (a b : ME) : evT F gd (.and a b) ρ S = (evT F gd a ρ S).bind fun k S => if k then evT F gd b ρ S else .ok false S := rfl
theorem evT_not (a : ME) : evT F gd (.not a) ρ S = (evT F gd a ρ S).bind fun k S => .ok (!k) S := rfl
theorem evT_bi (b : Bi) (m : Bool) (l : MEs) : evT F gd (.bi b m l) ρ S = (evEs F gd l ρ S).bind fun ws S => (biW gd b m ws S).bind fun w S => match tru S w with | some k => .ok k S | none => .bad := rfl
theorem exS_asg (g : MG) (e : ME) : exS F gd wf (.asg g e) ρ S = (evE F gd e ρ S).toS ρ fun w S => asgG F gd g w ρ S .next := rfl
theorem exS_ret (e : ME) : exS F gd wf (.ret e) ρ S = (evE F gd e ρ S).toS ρ fun w S => .ret w S := rfl
theorem exS_expr (e : ME) : exS F gd wf (.expr e) ρ S = (evE F gd e ρ S).toS ρ fun _ S => .next ρ S := rfl
theorem exS_ife (c : ME) (a b : MSs) : exS F gd wf (.ife c a b) ρ S = (evT F gd c ρ S).toS ρ fun k S => if k then exSs F gd wf a ρ S else exSs F gd wf b ρ S := rfl
theorem exS_fors (tg : MT) (k : IK) (src : MEs) (b : MSs) : exS F gd wf (.fors tg k src b) ρ S = if shI k src then (evEs F gd src ρ S).toS ρ fun ws S => match srcOf k ws S with
    | some (sr, n) => forGo sr tg (fun ρ S => exSs F gd wf b ρ S) (n + 1) 0 ρ S
    | none => .bad
    else .bad := rfl
theorem exSs_nil : exSs F gd wf .nil ρ S = .next ρ S := rfl
theorem exSs_cons (s : MS) (r : MSs) : exSs F gd wf (.cons s r) ρ S = match exS F gd wf s ρ S with | .next ρ S => exSs F gd wf r ρ S | x => x := rfl
theorem asgG_nm (i : Nat) (w : W) (k : Rho → Sto → RS) : asgG F gd (.nm i) w ρ S k = k (ρ.set i (some w)) S := rfl
theorem asgG_sub (a i : ME) (w : W) (k : Rho → Sto → RS) : asgG F gd (.sub a i) w ρ S k = (evE F gd a ρ S).toS ρ fun x S => (evE F gd i ρ S).toS ρ fun y S => (setW x y w S).toS ρ fun _ S => k ρ S := rfl
theorem Rbind_ok {α β : Type} (a : α) (f : α → Sto → R β) : (R.ok a S).bind f = f a S := rfl
theorem RtoS_ok {α : Type} (a : α) (f : α → Sto → RS) : (R.ok a S).toS ρ f = f a S := rfl
end
end MP
namespace MP
open PySem
section
variable {F : Nat → List W → Sto → R W} {gd : Gd} {wf : Nat} {ρ ρ' : Rho} {S S1 S2 S3 : Sto} {a b c e : ME} {l r : MEs} {x y w : W} {ws : List W} {rr : R W} {o : Op2} {m : Bool} {k : Bool}
theorem eop (ha : evE F gd a ρ S = .ok x S1) (hb : evE F gd b ρ S1 = .ok y S2) (ho : op2 o m x y S2 = rr) : evE F gd (.op o m a b) ρ S = rr := by rw [evE_op, ha, Rbind_ok, hb, Rbind_ok, ho]
theorem econs (ha : evE F gd a ρ S = .ok x S1) (hb : evEs F gd r ρ S1 = .ok ws S2) : evEs F gd (.cons a r) ρ S = .ok (x :: ws) S2 := by rw [evEs_cons, ha, Rbind_ok, hb, Rbind_ok]
theorem ebi {bi : Bi} (ha : evEs F gd l ρ S = .ok ws S1) (h : biW gd bi m ws S1 = rr) : evE F gd (.bi bi m l) ρ S = rr := by rw [evE_bi, ha, Rbind_ok, h]
theorem ecall {f : Nat} (ha : evEs F gd l ρ S = .ok ws S1) (h : F f ws S1 = rr) : evE F gd (.call f l) ρ S = rr := by rw [evE_call, ha, Rbind_ok, h]
theorem eix (ha : evE F gd a ρ S = .ok x S1) (hb : evE F gd b ρ S1 = .ok y S2) (ho : ixW x y S2 = rr) : evE F gd (.ix a b) ρ S = rr := by rw [evE_ix, ha, Rbind_ok, hb, Rbind_ok, ho]
theorem elst (ha : evEs F gd l ρ S = .ok ws S1) (hz : ws.length ≤ lim) (h : mkL m ws S1 = rr) : evE F gd (.lst m l) ρ S = rr := by rw [evE_lst, ha, Rbind_ok, if_pos hz, h]
theorem etup (ha : evEs F gd l ρ S = .ok ws S1) (hz : ws.length ≤ lim) (h : mkT ws S1 = rr) : evE F gd (.tup l) ρ S = rr := by rw [evE_tup, ha, Rbind_ok, if_pos hz, h]
theorem eifT (hc : evT F gd c ρ S = .ok true S1) (h : evE F gd a ρ S1 = rr) : evE F gd (.ife c a b) ρ S = rr := by rw [evE_ife, hc, Rbind_ok, if_pos rfl, h]
theorem eifF (hc : evT F gd c ρ S = .ok false S1) (h : evE F gd b ρ S1 = rr) : evE F gd (.ife c a b) ρ S = rr := by rw [evE_ife, hc, Rbind_ok, if_neg Bool.false_ne_true, h]
theorem tcmp (ha : evE F gd a ρ S = .ok x S1) (hb : evE F gd b ρ S1 = .ok y S2) (ho : op2 o m x y S2 = .ok (.d (.bool k)) S3) (hc : o.cmp.isSome = true) : evT F gd (.op o m a b) ρ S = .ok k S3 := by
  rw [evT_op, ha, Rbind_ok, hb, Rbind_ok, ho, Rbind_ok, if_pos hc]
theorem xasg {i : Nat} (h : evE F gd e ρ S = .ok w S1) : exS F gd wf (.asg (.nm i) e) ρ S = .next (ρ.set i (some w)) S1 := by rw [exS_asg, h, RtoS_ok, asgG_nm]
theorem xsub (h : evE F gd e ρ S = .ok w S1) (ha : evE F gd a ρ S1 = .ok x S2) (hb : evE F gd b ρ S2 = .ok y S3) {S4 : Sto} (hs : setW x y w S3 = .ok () S4) : exS F gd wf (.asg (.sub a b) e) ρ S = .next ρ S4 := by
  rw [exS_asg, h, RtoS_ok, asgG_sub, ha, RtoS_ok, hb, RtoS_ok, hs, RtoS_ok]
theorem xret (h : evE F gd e ρ S = .ok w S1) : exS F gd wf (.ret e) ρ S = .ret w S1 := by rw [exS_ret, h, RtoS_ok]
theorem xifT {p q : MSs} {rs : RS} (hc : evT F gd c ρ S = .ok true S1) (h : exSs F gd wf p ρ S1 = rs) : exS F gd wf (.ife c p q) ρ S = rs := by rw [exS_ife, hc, RtoS_ok, if_pos rfl, h]
theorem xifF {p q : MSs} {rs : RS} (hc : evT F gd c ρ S = .ok false S1) (h : exSs F gd wf q ρ S1 = rs) : exS F gd wf (.ife c p q) ρ S = rs := by rw [exS_ife, hc, RtoS_ok, if_neg Bool.false_ne_true, h]
theorem snext {s : MS} {t : MSs} {rs : RS} (h : exS F gd wf s ρ S = .next ρ' S1) (h2 : exSs F gd wf t ρ' S1 = rs) : exSs F gd wf (.cons s t) ρ S = rs := by rw [exSs_cons, h]; exact h2
theorem sret {s : MS} {t : MSs} (h : exS F gd wf s ρ S = .ret w S1) : exSs F gd wf (.cons s t) ρ S = .ret w S1 := by rw [exSs_cons, h]
end
end MP
namespace MP
open PySem
section
variable {F : Nat → List W → Sto → R W} {gd : Gd} {wf : Nat} {ρ ρ1 ρ2 : Rho} {S S1 S2 : Sto} {sr : Src} {tg : MT} {f : Rho → Sto → RS} {n i : Nat} {it : IW} {rs : RS}
theorem fgo (h1 : itemAt S i sr = some (some it)) (h2 : bindT S tg it ρ = some ρ1) (h3 : f ρ1 S = .next ρ2 S2) (h4 : forGo sr tg f n (i + 1) ρ2 S2 = rs) : forGo sr tg f (n + 1) i ρ S = rs := by
  show (match itemAt S i sr with | some none => RS.next ρ S | some (some it) => (match bindT S tg it ρ with | some ρ1 => (match f ρ1 S with | .next ρ2 S2 => forGo sr tg f n (i + 1) ρ2 S2 | .cont ρ2 S2 => forGo sr tg f n (i + 1) ρ2 S2 | .brk ρ2 S2 => .next ρ2 S2 | x => x) | none => .bad) | none => .bad) = rs
  rw [h1]
  show (match bindT S tg it ρ with | some ρ1 => (match f ρ1 S with | .next ρ2 S2 => forGo sr tg f n (i + 1) ρ2 S2 | .cont ρ2 S2 => forGo sr tg f n (i + 1) ρ2 S2 | .brk ρ2 S2 => .next ρ2 S2 | x => x) | none => .bad) = rs
  rw [h2]
  show (match f ρ1 S with | .next ρ2 S2 => forGo sr tg f n (i + 1) ρ2 S2 | .cont ρ2 S2 => forGo sr tg f n (i + 1) ρ2 S2 | .brk ρ2 S2 => .next ρ2 S2 | x => x) = rs
  rw [h3]
  exact h4
theorem fend (h1 : itemAt S i sr = some none) : forGo sr tg f (n + 1) i ρ S = .next ρ S := by
  show (match itemAt S i sr with | some none => RS.next ρ S | some (some it) => (match bindT S tg it ρ with | some ρ1 => (match f ρ1 S with | .next ρ2 S2 => forGo sr tg f n (i + 1) ρ2 S2 | .cont ρ2 S2 => forGo sr tg f n (i + 1) ρ2 S2 | .brk ρ2 S2 => .next ρ2 S2 | x => x) | none => .bad) | none => .bad) = _
  rw [h1]
theorem xfor {k : IK} {src : MEs} {b : MSs} {ws : List W} (hs : shI k src = true) (h1 : evEs F gd src ρ S = .ok ws S1) (h2 : srcOf k ws S1 = some (sr, n)) (h3 : forGo sr tg (fun ρ S => exSs F gd wf b ρ S) (n + 1) 0 ρ S1 = rs) : exS F gd wf (.fors tg k src b) ρ S = rs := by
  rw [exS_fors, if_pos hs, h1, RtoS_ok, h2]
  exact h3
end
end MP
namespace Law
open PySem MP
abbrev G3 (R : Sto) (a b c : Int) : Sto := .lst [.d (.int a), .d (.int b), .d (.int c)] :: R
abbrev Cl (R : Sto) : Prop := R.all (closedO (R.length + 1)) = true
def hmix (s x : Int) : Int := (s * 1140671 + 27644437 * x * x + 131 * x + 19).fmod 2147483629
def hmix2 (s x : Int) : Int := (hmix s x * hmix s x + 62089 * x + 32416187).fmod 2147483587
def hashv (s x : Int) : Int := (hmix2 s x * 48271).fmod 2147483647
theorem leave_int {R : Sto} (hR : Cl R) {x : PyData} {a b c : Int} : leaveW false (R.length + 1) (.d x) (G3 R a b c) = .ok (.d x) (G3 R a b c) := by
  unfold leaveW
  have ht : (G3 R a b c).take (R.length + 1) = G3 R a b c := List.take_of_length_le (by simp)
  rw [if_neg Bool.false_ne_true, ht]
  have hc : (G3 R a b c).all (closedO (R.length + 1)) = true := by
    rw [List.all_cons, hR]
    rfl
  rw [if_pos hc]
  rfl
theorem hash_ok {R : Sto} (hR : Cl R) {k : Nat} {s x a b c : Int} (h1 : 0 ≤ s) (h2 : s < 2147483647) (h3 : 0 ≤ x) (h4 : x < 2000) : runF fs gd 100 (k + 1) 2 [.d (.int s), .d (.int x)] (G3 R a b c) = .ok (.d (.int (hashv s x))) (G3 R a b c) := by
  have e1 : Small s := ⟨by omega, by omega⟩
  have e2 : Small x := ⟨by omega, by omega⟩
  have e3 : Small (27644437 * x) := ⟨by omega, by omega⟩
  have k1 : Small 1140671 := ⟨by omega, by omega⟩
  have k2 : Small 27644437 := ⟨by omega, by omega⟩
  have k3 : Small 131 := ⟨by omega, by omega⟩
  have k4 : Small 62089 := ⟨by omega, by omega⟩
  have k5 : Small 48271 := ⟨by omega, by omega⟩
  have m1 : 0 ≤ hmix s x ∧ hmix s x < 2147483629 := by
    unfold hmix
    rw [Int.fmod_eq_emod_of_nonneg _ (by decide)]
    omega
  have e4 : Small (hmix s x) := ⟨by omega, by omega⟩
  have m2 : 0 ≤ hmix2 s x ∧ hmix2 s x < 2147483587 := by
    unfold hmix2
    rw [Int.fmod_eq_emod_of_nonneg _ (by decide)]
    omega
  have e5 : Small (hmix2 s x) := ⟨by omega, by omega⟩
  rw [run_eq (d := f2) rfl rfl]
  have body : exSs (runF fs gd 100 k) gd 100 b2 [some (.d (.int s)), some (.d (.int x)), none] (G3 R a b c) = .ret (.d (.int (hashv s x))) (G3 R a b c) := by
    refine snext (xasg (eop (ebi (econs (eop (eop (eop (eop rfl rfl (ev_mul e1 k1)) (eop (eop rfl rfl (ev_mul k2 e2)) rfl (ev_mul e3 e2)) ev_add) (eop rfl rfl (ev_mul k3 e2)) ev_add) rfl ev_add) rfl) rfl) rfl (ev_mod (by decide)))) ?_
    refine snext (xasg (w := .d (.int (hmix2 s x))) (eop (ebi (econs (eop (eop (eop rfl rfl (ev_mul e4 e4)) (eop rfl rfl (ev_mul k4 e2)) ev_add) rfl ev_add) rfl) rfl) rfl (ev_mod (by decide)))) ?_
    exact sret (xret (eop (ebi (econs (eop rfl rfl (ev_mul e5 k5)) rfl) rfl) rfl (ev_mod (by decide))))
  show fin false (R.length + 1) (exSs (runF fs gd 100 k) gd 100 b2 [some (.d (.int s)), some (.d (.int x)), none] (G3 R a b c)) = _
  rw [body]
  exact leave_int hR
end Law
namespace Law
open PySem MP
theorem hash_lt (s x : Int) : 0 ≤ hashv s x ∧ hashv s x < 2147483647 := by
  unfold hashv
  rw [Int.fmod_eq_emod_of_nonneg _ (by decide)]
  omega
abbrev tbody : MSs := ss [(.asg (.sub (v 0) (i 2)) (.op .add false (.ix (v 0) (i 2)) (i 1))), (.asg (.nm 2) (.op .add false (.op .mul false (v 2) (i 2147483587)) (.call 2 (es [(.ix (v 0) (i 1)), (.ix (v 0) (i 2))]))))]
theorem turn1 {R : Sto} (hR : Cl R) {k : Nat} {a b c dr : Int} {B : W} {t : Option W} (h1 : 0 ≤ b) (h2 : b < 2147483647) (h3 : 0 ≤ c) (h4 : c < 1900) (hd : Small dr) :
    exSs (runF fs gd 100 (k + 1)) gd 100 tbody [some (.ref 0), some B, some (.d (.int dr)), t] (G3 R a b c) = .next [some (.ref 0), some B, some (.d (.int (dr * 2147483587 + hashv b (c + 1)))), t] (G3 R a b (c + 1)) := by
  have k1 : Small 2147483587 := ⟨by omega, by omega⟩
  refine snext (xsub (eop (eix rfl rfl rfl) rfl ev_add) rfl rfl rfl) ?_
  refine snext (xasg (eop (eop rfl rfl (ev_mul hd k1)) (ecall (econs (eix rfl rfl rfl) (econs (eix rfl rfl rfl) rfl)) (hash_ok hR h1 h2 (by omega) (by omega))) ev_add)) ?_
  rfl
theorem rnd_ok {R : Sto} (hR : Cl R) {k : Nat} {a b c B : Int} (ha : 0 ≤ a) (hB : 0 < B) (hl : B.natAbs.log2 < 9000) (h1 : 0 ≤ b) (h2 : b < 2147483647) (h3 : 0 ≤ c) (h4 : c < 1800) (hN : 1 + ((Builtin.Int.intBits B : Nat) : Int) / 30 = 1 ∨ 1 + ((Builtin.Int.intBits B : Nat) : Int) / 30 = 3) :
    ∃ r a' c', runF fs gd 100 (k + 2) 3 [.ref 0, .d (.int B)] (G3 R a b c) = .ok (.d (.int r)) (G3 R a' b c') ∧ 0 ≤ r ∧ r < B ∧ 0 ≤ a' ∧ 0 ≤ c' ∧ c' ≤ c + 3 := by
  have md : ∀ x : Int, 0 ≤ x.fmod B ∧ x.fmod B < B := fun x => by
    rw [Int.fmod_eq_emod_of_nonneg _ (by omega)]
    exact ⟨Int.emod_nonneg _ (by omega), Int.emod_lt_of_pos _ hB⟩
  have top : ∀ {r a' c' : Int}, exSs (runF fs gd 100 (k + 1)) gd 100 b3 [some (.ref 0), some (.d (.int B)), none, none] (G3 R a b c) = .ret (.d (.int r)) (G3 R a' b c') → runF fs gd 100 (k + 2) 3 [.ref 0, .d (.int B)] (G3 R a b c) = .ok (.d (.int r)) (G3 R a' b c') := fun {r a' c'} h => by
    rw [run_eq (d := f3) rfl rfl]
    show fin false (R.length + 1) (exSs (runF fs gd 100 (k + 1)) gd 100 b3 [some (.ref 0), some (.d (.int B)), none, none] (G3 R a b c)) = _
    rw [h]
    exact leave_int hR
  by_cases hp : 0 < a
  · refine ⟨a.fmod B, a / B, c, top ?_, (md a).1, (md a).2, Int.ediv_nonneg ha (by omega), h3, by omega⟩
    refine sret (xifT (tcmp (k := true) (eix rfl rfl rfl) rfl (ev_gtT hp) rfl) ?_)
    refine snext (xasg (eop (ebi (econs (eix rfl rfl rfl) rfl) rfl) rfl (ev_mod (by omega)))) ?_
    refine snext (xsub (eop (eix rfl rfl rfl) rfl (ev_fdiv hB hl)) rfl rfl rfl) ?_
    exact sret (xret rfl)
  · have key : ∀ {n : Nat} {dr c' : Int} {t : Option W}, 1 + ((Builtin.Int.intBits B : Nat) : Int) / 30 = (n : Int) → n ≤ 3 → forGo (.rng 0 n) (.nm 3) (fun ρ S => exSs (runF fs gd 100 (k + 1)) gd 100 tbody ρ S) (n + 1) 0 [some (.ref 0), some (.d (.int B)), some (.d (.int 0)), none] (G3 R a b c) = .next [some (.ref 0), some (.d (.int B)), some (.d (.int dr)), t] (G3 R a b c') →
        exSs (runF fs gd 100 (k + 1)) gd 100 b3 [some (.ref 0), some (.d (.int B)), none, none] (G3 R a b c) = .ret (.d (.int (dr.fmod B))) (G3 R a b c') := fun {n dr c' t} hn hn3 hf => by
      refine snext (xifF (tcmp (k := false) (eix rfl rfl rfl) rfl (ev_gtF hp) rfl) rfl) ?_
      refine snext (xasg rfl) ?_
      refine snext (xfor (ws := [.d (.int (n : Int))]) (sr := .rng 0 n) (n := n) rfl (econs (eop rfl (eop rfl rfl (ev_fdiv (by decide) (by decide))) (ev_addE hn)) rfl) ?_ hf) ?_
      · show (if inRng (n : Int) = true then some (Src.rng 0 (n : Int).toNat, (n : Int).toNat) else none) = _
        have : inRng (n : Int) = true := by
          unfold inRng
          simp only [Bool.and_eq_true, decide_eq_true_eq]
          omega
        rw [if_pos this, Int.toNat_natCast]
      · exact sret (xret (eop (ebi (econs rfl rfl) rfl) rfl (ev_mod (by omega))))
    have s0 : Small 0 := ⟨by omega, by omega⟩
    obtain ⟨u1, u2⟩ := hash_lt b (c + 1)
    obtain ⟨v1, v2⟩ := hash_lt b (c + 1 + 1)
    have s1 : Small (0 * 2147483587 + hashv b (c + 1)) := ⟨by omega, by omega⟩
    have s2 : Small ((0 * 2147483587 + hashv b (c + 1)) * 2147483587 + hashv b (c + 1 + 1)) := ⟨by omega, by omega⟩
    rcases hN with hN | hN
    · refine ⟨_, a, c + 1, top (key (n := 1) (dr := 0 * 2147483587 + hashv b (c + 1)) hN (by omega) (fgo rfl rfl (turn1 hR h1 h2 h3 (by omega) s0) (fend rfl))), (md _).1, (md _).2, ha, by omega, by omega⟩
    · refine ⟨_, a, c + 1 + 1 + 1, top (key (n := 3) (dr := ((0 * 2147483587 + hashv b (c + 1)) * 2147483587 + hashv b (c + 1 + 1)) * 2147483587 + hashv b (c + 1 + 1 + 1)) hN (by omega) (fgo rfl rfl (turn1 hR h1 h2 h3 (by omega) s0) (fgo rfl rfl (turn1 hR h1 h2 (by omega) (by omega) s1) (fgo rfl rfl (turn1 hR h1 h2 (by omega) (by omega) s2) (fend rfl))))), (md _).1, (md _).2, ha, by omega, by omega⟩
end Law
namespace Law
open PySem MP
theorem ix0 {d : PyData} {ds : List PyData} {S : Sto} : ixW (.d (.list (d :: ds))) (.d (.int 0)) S = .ok (.d d) S := by
  simp [ixW, isDict, seqL, L2.atI, L2.ixN]
theorem cell_ok {k : Nat} (ns : List Int) : ∃ x, runF fs gd 100 (k + 1) 0 [.d (.list (ns.map .int)), .d (.int 0)] [] = .ok (.d (.int x)) [] := by
  have top : ∀ {x : Int}, exSs (runF fs gd 100 k) gd 100 b0 [some (.d (.list (ns.map .int))), some (.d (.int 0))] [] = .ret (.d (.int x)) [] → runF fs gd 100 (k + 1) 0 [.d (.list (ns.map .int)), .d (.int 0)] [] = .ok (.d (.int x)) [] := fun {x} h => by
    rw [run_eq (d := f0) rfl rfl]
    show fin false 0 (exSs (runF fs gd 100 k) gd 100 b0 [some (.d (.list (ns.map .int))), some (.d (.int 0))] []) = _
    rw [h]
    rfl
  cases ns with
  | nil => exact ⟨0, top rfl⟩
  | cons x r =>
    refine ⟨x, top ?_⟩
    exact sret (xifT (tcmp (k := true) rfl (ebi (econs rfl rfl) rfl) (ev_ltT (by show (0 : Int) < ((List.length (List.map PyData.int (x :: r)) : Nat) : Int); rw [List.length_map, List.length_cons]; omega)) rfl) (sret (xret (eix rfl rfl ix0))))
theorem ev_pow {m : Bool} {i j : Int} {S : Sto} (h : 0 ≤ j ∧ (Builtin.Int.intBits i : Int) * j ≤ 2 ^ 27) : op2 .pow m (.d (.int i)) (.d (.int j)) S = .ok (.d (.int (i ^ j.toNat))) S := by
  show (if _ then _ else _) = _
  exact if_pos h
theorem gen_ok {k : Nat} (ns : List Int) : ∃ a b, 0 ≤ a ∧ 0 ≤ b ∧ b < 2147483647 ∧ runF fs gd 100 (k + 2) 1 [.d (.list (ns.map .int)), .d (.int 0)] [] = .ok (.ref 0) (G3 [] a b 0) := by
  obtain ⟨x, hx⟩ := cell_ok (k := k) ns
  have k0 : Small 0 := ⟨by omega, by omega⟩
  have k1 : Small 1000 := ⟨by omega, by omega⟩
  have nz : ((10 : Int) ^ (60 : Int).toNat) ^ (10 : Int).toNat ≠ 0 := by decide +kernel
  have md : ∀ (x m : Int), 0 ≤ m → m ≠ 0 → 0 ≤ x.fmod m := fun x m h h' => by
    rw [Int.fmod_eq_emod_of_nonneg _ h]
    exact Int.emod_nonneg _ h'
  have mb : 0 ≤ x.fmod 2147483647 ∧ x.fmod 2147483647 < 2147483647 := by
    rw [Int.fmod_eq_emod_of_nonneg _ (by decide)]
    omega
  refine ⟨(if 0 > x - 10 ^ (18 : Int).toNat then 0 else x - 10 ^ (18 : Int).toNat).fmod (((10 : Int) ^ (60 : Int).toNat) ^ (10 : Int).toNat), x.fmod 2147483647, md _ _ (by decide +kernel) nz, mb.1, mb.2, ?_⟩
  rw [run_eq (d := f1) rfl rfl]
  have body : exSs (runF fs gd 100 (k + 1)) gd 100 b1 [some (.d (.list (ns.map .int))), some (.d (.int 0)), none] [] = .ret (.ref 0) (G3 [] ((if 0 > x - 10 ^ (18 : Int).toNat then 0 else x - 10 ^ (18 : Int).toNat).fmod (((10 : Int) ^ (60 : Int).toNat) ^ (10 : Int).toNat)) (x.fmod 2147483647) 0) := by
    refine snext (xasg (ecall (econs rfl (econs rfl rfl)) hx)) ?_
    refine sret (xret (elst (econs (eop (ebi (econs (ebi (econs (eop rfl (eop rfl rfl (ev_pow (by decide +kernel))) ev_sub) (econs rfl rfl)) rfl) rfl) rfl) (eop (eop rfl rfl (ev_pow (by decide +kernel))) rfl (ev_pow (by decide +kernel))) (ev_mod nz))
      (econs (eop (ebi (econs rfl rfl) rfl) rfl (ev_mod (by decide))) (econs (eop rfl rfl (ev_mul k1 k0)) rfl))) (show 3 ≤ lim by decide) rfl))
  show fin true 0 (exSs (runF fs gd 100 (k + 1)) gd 100 b1 [some (.d (.list (ns.map .int))), some (.d (.int 0)), none] []) = _
  rw [body]
  rfl
end Law
namespace Law
open PySem MP
def tail (m : MSs) (n : Nat) : MSs := match n, m with | 0, m => m | n + 1, .cons _ r => tail r n | _, .nil => .nil
abbrev fbody : MSs := match tail b7 2 with | .cons (.fors _ _ _ b) _ => b | _ => .nil
abbrev rest : MSs := tail b7 3
def retOk (r : RS) : Bool := match r with | .ret (.d (.bool true)) _ => true | _ => false
theorem retOk_ok {r : RS} (h : retOk r = true) : ∃ S, r = .ret (.d (.bool true)) S := by
  unfold retOk at h
  split at h
  · exact ⟨_, rfl⟩
  · cases h
abbrev Rv (r1 : Int) (z : Str) (l : List W) : Sto := [.lst l, .lst [.d (.int r1), .d (.str z), .ref 1, .d .none, .d (.tuple [.int 2, .tuple [.int 3]])]]
abbrev l0 : List W := [.d (.int 1), .d .none]
theorem rest_ok {sc w e : W} {r1 a b c : Int} {z : Str} : retOk (exSs (runF fs gd 100 4) gd 100 rest [some sc, some (.ref 0), some w, some (.d (.int 11)), none, none, some e, none, none] (G3 (Rv r1 z l0) a b c)) = true := by kernel_rfl
end Law
namespace Law
open PySem MP
theorem etru {F : Nat → List W → Sto → R W} {gd : Gd} {a b : ME} {ρ : Rho} {S S1 S2 : Sto} {x y : W} {m : Bool} (ha : evE F gd a ρ S = .ok x S1) (hb : evE F gd b ρ S1 = .ok y S2) (h : op2 .eq m x y S2 = .ok (.d (.bool true)) S2) : evT F gd (.not (.op .eq m a b)) ρ S = .ok false S2 := by
  rw [evT_not, tcmp (k := true) ha hb h rfl, Rbind_ok]
  rfl
theorem eq_int {r : Int} {S : Sto} : op2 .eq false (.d (.int r)) (.d (.int r)) S = .ok (.d (.bool true)) S := by
  show eqW false (.d (.int r)) (.d (.int r)) S = _
  have e : PyData.eqv (.int r) (.int r) = true := by simp [PyData.eqv]
  show (if (SeqAt.shaped (.int r) && SeqAt.shaped (.int r)) = true then (R.ok (.d (.bool (PyData.eqv (.int r) (.int r)))) S : R W) else .bad) = _
  rw [e]
  rfl
abbrev q1 : MS := match fbody with | .cons a _ => a | _ => .pass
abbrev q2 : MS := match tail fbody 1 with | .cons a _ => a | _ => .pass
abbrev q3 : MS := match tail fbody 2 with | .cons a _ => a | _ => .pass
abbrev q4 : MS := match tail fbody 3 with | .cons a _ => a | _ => .pass
section
variable {sc : W} {r r1 a b c : Int} {z : Str} {e : Option W}
theorem t0 : exSs (runF fs gd 100 4) gd 100 fbody [some sc, some (.ref 0), some (.d (.int r)), some (.d (.int 0)), none, none, e, none, none] (G3 (Rv r1 z l0) a b c) = .next [some sc, some (.ref 0), some (.d (.int r)), some (.d (.int 0)), none, none, some (.exn 1 (.d (.int r))), none, none] (G3 (Rv r1 z l0) a b c) := by
  have h1 : exS (runF fs gd 100 4) gd 100 q1 [some sc, some (.ref 0), some (.d (.int r)), some (.d (.int 0)), none, none, e, none, none] (G3 (Rv r1 z l0) a b c) = .next [some sc, some (.ref 0), some (.d (.int r)), some (.d (.int 0)), none, none, some (.exn 1 (.d (.int r))), none, none] (G3 (Rv r1 z l0) a b c) := by kernel_rfl
  have h2 : exS (runF fs gd 100 4) gd 100 q2 [some sc, some (.ref 0), some (.d (.int r)), some (.d (.int 0)), none, none, some (.exn 1 (.d (.int r))), none, none] (G3 (Rv r1 z l0) a b c) = .next [some sc, some (.ref 0), some (.d (.int r)), some (.d (.int 0)), none, none, some (.exn 1 (.d (.int r))), none, none] (G3 (Rv r1 z l0) a b c) := by kernel_rfl
  have h3 : exS (runF fs gd 100 4) gd 100 q3 [some sc, some (.ref 0), some (.d (.int r)), some (.d (.int 0)), none, none, some (.exn 1 (.d (.int r))), none, none] (G3 (Rv r1 z l0) a b c) = .next [some sc, some (.ref 0), some (.d (.int r)), some (.d (.int 0)), none, none, some (.exn 1 (.d (.int r))), none, none] (G3 (Rv r1 z l0) a b c) := by kernel_rfl
  have h4 : exS (runF fs gd 100 4) gd 100 q4 [some sc, some (.ref 0), some (.d (.int r)), some (.d (.int 0)), none, none, some (.exn 1 (.d (.int r))), none, none] (G3 (Rv r1 z l0) a b c) = .next [some sc, some (.ref 0), some (.d (.int r)), some (.d (.int 0)), none, none, some (.exn 1 (.d (.int r))), none, none] (G3 (Rv r1 z l0) a b c) := xifF (etru rfl rfl eq_int) rfl
  exact snext h1 (snext h2 (snext h3 (snext h4 rfl)))
theorem t1 : exSs (runF fs gd 100 4) gd 100 fbody [some sc, some (.ref 0), some (.d (.int r)), some (.d (.int 1)), none, none, e, none, none] (G3 (Rv r1 z l0) a b c) = .next [some sc, some (.ref 0), some (.d (.int r)), some (.d (.int 1)), none, none, some (.exn 2 (.d (.int r))), none, none] (G3 (Rv r1 z l0) a b c) := by
  have h1 : exS (runF fs gd 100 4) gd 100 q1 [some sc, some (.ref 0), some (.d (.int r)), some (.d (.int 1)), none, none, e, none, none] (G3 (Rv r1 z l0) a b c) = .next [some sc, some (.ref 0), some (.d (.int r)), some (.d (.int 1)), none, none, some (.exn 2 (.d (.int r))), none, none] (G3 (Rv r1 z l0) a b c) := by kernel_rfl
  have h2 : exS (runF fs gd 100 4) gd 100 q2 [some sc, some (.ref 0), some (.d (.int r)), some (.d (.int 1)), none, none, some (.exn 2 (.d (.int r))), none, none] (G3 (Rv r1 z l0) a b c) = .next [some sc, some (.ref 0), some (.d (.int r)), some (.d (.int 1)), none, none, some (.exn 2 (.d (.int r))), none, none] (G3 (Rv r1 z l0) a b c) := by kernel_rfl
  have h3 : exS (runF fs gd 100 4) gd 100 q3 [some sc, some (.ref 0), some (.d (.int r)), some (.d (.int 1)), none, none, some (.exn 2 (.d (.int r))), none, none] (G3 (Rv r1 z l0) a b c) = .next [some sc, some (.ref 0), some (.d (.int r)), some (.d (.int 1)), none, none, some (.exn 2 (.d (.int r))), none, none] (G3 (Rv r1 z l0) a b c) := by kernel_rfl
  have h4 : exS (runF fs gd 100 4) gd 100 q4 [some sc, some (.ref 0), some (.d (.int r)), some (.d (.int 1)), none, none, some (.exn 2 (.d (.int r))), none, none] (G3 (Rv r1 z l0) a b c) = .next [some sc, some (.ref 0), some (.d (.int r)), some (.d (.int 1)), none, none, some (.exn 2 (.d (.int r))), none, none] (G3 (Rv r1 z l0) a b c) := xifF (etru rfl rfl eq_int) rfl
  exact snext h1 (snext h2 (snext h3 (snext h4 rfl)))
theorem t2 : exSs (runF fs gd 100 4) gd 100 fbody [some sc, some (.ref 0), some (.d (.int r)), some (.d (.int 2)), none, none, e, none, none] (G3 (Rv r1 z l0) a b c) = .next [some sc, some (.ref 0), some (.d (.int r)), some (.d (.int 2)), none, none, some (.exn 3 (.d (.int r))), none, none] (G3 (Rv r1 z l0) a b c) := by
  have h1 : exS (runF fs gd 100 4) gd 100 q1 [some sc, some (.ref 0), some (.d (.int r)), some (.d (.int 2)), none, none, e, none, none] (G3 (Rv r1 z l0) a b c) = .next [some sc, some (.ref 0), some (.d (.int r)), some (.d (.int 2)), none, none, some (.exn 3 (.d (.int r))), none, none] (G3 (Rv r1 z l0) a b c) := by kernel_rfl
  have h2 : exS (runF fs gd 100 4) gd 100 q2 [some sc, some (.ref 0), some (.d (.int r)), some (.d (.int 2)), none, none, some (.exn 3 (.d (.int r))), none, none] (G3 (Rv r1 z l0) a b c) = .next [some sc, some (.ref 0), some (.d (.int r)), some (.d (.int 2)), none, none, some (.exn 3 (.d (.int r))), none, none] (G3 (Rv r1 z l0) a b c) := by kernel_rfl
  have h3 : exS (runF fs gd 100 4) gd 100 q3 [some sc, some (.ref 0), some (.d (.int r)), some (.d (.int 2)), none, none, some (.exn 3 (.d (.int r))), none, none] (G3 (Rv r1 z l0) a b c) = .next [some sc, some (.ref 0), some (.d (.int r)), some (.d (.int 2)), none, none, some (.exn 3 (.d (.int r))), none, none] (G3 (Rv r1 z l0) a b c) := by kernel_rfl
  have h4 : exS (runF fs gd 100 4) gd 100 q4 [some sc, some (.ref 0), some (.d (.int r)), some (.d (.int 2)), none, none, some (.exn 3 (.d (.int r))), none, none] (G3 (Rv r1 z l0) a b c) = .next [some sc, some (.ref 0), some (.d (.int r)), some (.d (.int 2)), none, none, some (.exn 3 (.d (.int r))), none, none] (G3 (Rv r1 z l0) a b c) := xifF (etru rfl rfl eq_int) rfl
  exact snext h1 (snext h2 (snext h3 (snext h4 rfl)))
theorem t3 : exSs (runF fs gd 100 4) gd 100 fbody [some sc, some (.ref 0), some (.d (.int r)), some (.d (.int 3)), none, none, e, none, none] (G3 (Rv r1 z l0) a b c) = .next [some sc, some (.ref 0), some (.d (.int r)), some (.d (.int 3)), none, none, some (.exn 4 (.d (.int r))), none, none] (G3 (Rv r1 z l0) a b c) := by
  have h1 : exS (runF fs gd 100 4) gd 100 q1 [some sc, some (.ref 0), some (.d (.int r)), some (.d (.int 3)), none, none, e, none, none] (G3 (Rv r1 z l0) a b c) = .next [some sc, some (.ref 0), some (.d (.int r)), some (.d (.int 3)), none, none, some (.exn 4 (.d (.int r))), none, none] (G3 (Rv r1 z l0) a b c) := by kernel_rfl
  have h2 : exS (runF fs gd 100 4) gd 100 q2 [some sc, some (.ref 0), some (.d (.int r)), some (.d (.int 3)), none, none, some (.exn 4 (.d (.int r))), none, none] (G3 (Rv r1 z l0) a b c) = .next [some sc, some (.ref 0), some (.d (.int r)), some (.d (.int 3)), none, none, some (.exn 4 (.d (.int r))), none, none] (G3 (Rv r1 z l0) a b c) := by kernel_rfl
  have h3 : exS (runF fs gd 100 4) gd 100 q3 [some sc, some (.ref 0), some (.d (.int r)), some (.d (.int 3)), none, none, some (.exn 4 (.d (.int r))), none, none] (G3 (Rv r1 z l0) a b c) = .next [some sc, some (.ref 0), some (.d (.int r)), some (.d (.int 3)), none, none, some (.exn 4 (.d (.int r))), none, none] (G3 (Rv r1 z l0) a b c) := by kernel_rfl
  have h4 : exS (runF fs gd 100 4) gd 100 q4 [some sc, some (.ref 0), some (.d (.int r)), some (.d (.int 3)), none, none, some (.exn 4 (.d (.int r))), none, none] (G3 (Rv r1 z l0) a b c) = .next [some sc, some (.ref 0), some (.d (.int r)), some (.d (.int 3)), none, none, some (.exn 4 (.d (.int r))), none, none] (G3 (Rv r1 z l0) a b c) := xifF (etru rfl rfl eq_int) rfl
  exact snext h1 (snext h2 (snext h3 (snext h4 rfl)))
theorem t4 : exSs (runF fs gd 100 4) gd 100 fbody [some sc, some (.ref 0), some (.d (.int r)), some (.d (.int 4)), none, none, e, none, none] (G3 (Rv r1 z l0) a b c) = .next [some sc, some (.ref 0), some (.d (.int r)), some (.d (.int 4)), none, none, some (.exn 5 (.d (.int r))), none, none] (G3 (Rv r1 z l0) a b c) := by
  have h1 : exS (runF fs gd 100 4) gd 100 q1 [some sc, some (.ref 0), some (.d (.int r)), some (.d (.int 4)), none, none, e, none, none] (G3 (Rv r1 z l0) a b c) = .next [some sc, some (.ref 0), some (.d (.int r)), some (.d (.int 4)), none, none, some (.exn 5 (.d (.int r))), none, none] (G3 (Rv r1 z l0) a b c) := by kernel_rfl
  have h2 : exS (runF fs gd 100 4) gd 100 q2 [some sc, some (.ref 0), some (.d (.int r)), some (.d (.int 4)), none, none, some (.exn 5 (.d (.int r))), none, none] (G3 (Rv r1 z l0) a b c) = .next [some sc, some (.ref 0), some (.d (.int r)), some (.d (.int 4)), none, none, some (.exn 5 (.d (.int r))), none, none] (G3 (Rv r1 z l0) a b c) := by kernel_rfl
  have h3 : exS (runF fs gd 100 4) gd 100 q3 [some sc, some (.ref 0), some (.d (.int r)), some (.d (.int 4)), none, none, some (.exn 5 (.d (.int r))), none, none] (G3 (Rv r1 z l0) a b c) = .next [some sc, some (.ref 0), some (.d (.int r)), some (.d (.int 4)), none, none, some (.exn 5 (.d (.int r))), none, none] (G3 (Rv r1 z l0) a b c) := by kernel_rfl
  have h4 : exS (runF fs gd 100 4) gd 100 q4 [some sc, some (.ref 0), some (.d (.int r)), some (.d (.int 4)), none, none, some (.exn 5 (.d (.int r))), none, none] (G3 (Rv r1 z l0) a b c) = .next [some sc, some (.ref 0), some (.d (.int r)), some (.d (.int 4)), none, none, some (.exn 5 (.d (.int r))), none, none] (G3 (Rv r1 z l0) a b c) := xifF (etru rfl rfl eq_int) rfl
  exact snext h1 (snext h2 (snext h3 (snext h4 rfl)))
theorem t5 : exSs (runF fs gd 100 4) gd 100 fbody [some sc, some (.ref 0), some (.d (.int r)), some (.d (.int 5)), none, none, e, none, none] (G3 (Rv r1 z l0) a b c) = .next [some sc, some (.ref 0), some (.d (.int r)), some (.d (.int 5)), none, none, some (.exn 6 (.d (.int r))), none, none] (G3 (Rv r1 z l0) a b c) := by
  have h1 : exS (runF fs gd 100 4) gd 100 q1 [some sc, some (.ref 0), some (.d (.int r)), some (.d (.int 5)), none, none, e, none, none] (G3 (Rv r1 z l0) a b c) = .next [some sc, some (.ref 0), some (.d (.int r)), some (.d (.int 5)), none, none, some (.exn 6 (.d (.int r))), none, none] (G3 (Rv r1 z l0) a b c) := by kernel_rfl
  have h2 : exS (runF fs gd 100 4) gd 100 q2 [some sc, some (.ref 0), some (.d (.int r)), some (.d (.int 5)), none, none, some (.exn 6 (.d (.int r))), none, none] (G3 (Rv r1 z l0) a b c) = .next [some sc, some (.ref 0), some (.d (.int r)), some (.d (.int 5)), none, none, some (.exn 6 (.d (.int r))), none, none] (G3 (Rv r1 z l0) a b c) := by kernel_rfl
  have h3 : exS (runF fs gd 100 4) gd 100 q3 [some sc, some (.ref 0), some (.d (.int r)), some (.d (.int 5)), none, none, some (.exn 6 (.d (.int r))), none, none] (G3 (Rv r1 z l0) a b c) = .next [some sc, some (.ref 0), some (.d (.int r)), some (.d (.int 5)), none, none, some (.exn 6 (.d (.int r))), none, none] (G3 (Rv r1 z l0) a b c) := by kernel_rfl
  have h4 : exS (runF fs gd 100 4) gd 100 q4 [some sc, some (.ref 0), some (.d (.int r)), some (.d (.int 5)), none, none, some (.exn 6 (.d (.int r))), none, none] (G3 (Rv r1 z l0) a b c) = .next [some sc, some (.ref 0), some (.d (.int r)), some (.d (.int 5)), none, none, some (.exn 6 (.d (.int r))), none, none] (G3 (Rv r1 z l0) a b c) := xifF (etru rfl rfl eq_int) rfl
  exact snext h1 (snext h2 (snext h3 (snext h4 rfl)))
theorem t6 : exSs (runF fs gd 100 4) gd 100 fbody [some sc, some (.ref 0), some (.d (.int r)), some (.d (.int 6)), none, none, e, none, none] (G3 (Rv r1 z l0) a b c) = .next [some sc, some (.ref 0), some (.d (.int r)), some (.d (.int 6)), none, none, some (.exn 7 (.d (.int r))), none, none] (G3 (Rv r1 z l0) a b c) := by
  have h1 : exS (runF fs gd 100 4) gd 100 q1 [some sc, some (.ref 0), some (.d (.int r)), some (.d (.int 6)), none, none, e, none, none] (G3 (Rv r1 z l0) a b c) = .next [some sc, some (.ref 0), some (.d (.int r)), some (.d (.int 6)), none, none, some (.exn 7 (.d (.int r))), none, none] (G3 (Rv r1 z l0) a b c) := by kernel_rfl
  have h2 : exS (runF fs gd 100 4) gd 100 q2 [some sc, some (.ref 0), some (.d (.int r)), some (.d (.int 6)), none, none, some (.exn 7 (.d (.int r))), none, none] (G3 (Rv r1 z l0) a b c) = .next [some sc, some (.ref 0), some (.d (.int r)), some (.d (.int 6)), none, none, some (.exn 7 (.d (.int r))), none, none] (G3 (Rv r1 z l0) a b c) := by kernel_rfl
  have h3 : exS (runF fs gd 100 4) gd 100 q3 [some sc, some (.ref 0), some (.d (.int r)), some (.d (.int 6)), none, none, some (.exn 7 (.d (.int r))), none, none] (G3 (Rv r1 z l0) a b c) = .next [some sc, some (.ref 0), some (.d (.int r)), some (.d (.int 6)), none, none, some (.exn 7 (.d (.int r))), none, none] (G3 (Rv r1 z l0) a b c) := by kernel_rfl
  have h4 : exS (runF fs gd 100 4) gd 100 q4 [some sc, some (.ref 0), some (.d (.int r)), some (.d (.int 6)), none, none, some (.exn 7 (.d (.int r))), none, none] (G3 (Rv r1 z l0) a b c) = .next [some sc, some (.ref 0), some (.d (.int r)), some (.d (.int 6)), none, none, some (.exn 7 (.d (.int r))), none, none] (G3 (Rv r1 z l0) a b c) := xifF (etru rfl rfl eq_int) rfl
  exact snext h1 (snext h2 (snext h3 (snext h4 rfl)))
theorem t7 : exSs (runF fs gd 100 4) gd 100 fbody [some sc, some (.ref 0), some (.d (.int r)), some (.d (.int 7)), none, none, e, none, none] (G3 (Rv r1 z l0) a b c) = .next [some sc, some (.ref 0), some (.d (.int r)), some (.d (.int 7)), none, none, some (.exn 8 (.d (.int r))), none, none] (G3 (Rv r1 z l0) a b c) := by
  have h1 : exS (runF fs gd 100 4) gd 100 q1 [some sc, some (.ref 0), some (.d (.int r)), some (.d (.int 7)), none, none, e, none, none] (G3 (Rv r1 z l0) a b c) = .next [some sc, some (.ref 0), some (.d (.int r)), some (.d (.int 7)), none, none, some (.exn 8 (.d (.int r))), none, none] (G3 (Rv r1 z l0) a b c) := by kernel_rfl
  have h2 : exS (runF fs gd 100 4) gd 100 q2 [some sc, some (.ref 0), some (.d (.int r)), some (.d (.int 7)), none, none, some (.exn 8 (.d (.int r))), none, none] (G3 (Rv r1 z l0) a b c) = .next [some sc, some (.ref 0), some (.d (.int r)), some (.d (.int 7)), none, none, some (.exn 8 (.d (.int r))), none, none] (G3 (Rv r1 z l0) a b c) := by kernel_rfl
  have h3 : exS (runF fs gd 100 4) gd 100 q3 [some sc, some (.ref 0), some (.d (.int r)), some (.d (.int 7)), none, none, some (.exn 8 (.d (.int r))), none, none] (G3 (Rv r1 z l0) a b c) = .next [some sc, some (.ref 0), some (.d (.int r)), some (.d (.int 7)), none, none, some (.exn 8 (.d (.int r))), none, none] (G3 (Rv r1 z l0) a b c) := by kernel_rfl
  have h4 : exS (runF fs gd 100 4) gd 100 q4 [some sc, some (.ref 0), some (.d (.int r)), some (.d (.int 7)), none, none, some (.exn 8 (.d (.int r))), none, none] (G3 (Rv r1 z l0) a b c) = .next [some sc, some (.ref 0), some (.d (.int r)), some (.d (.int 7)), none, none, some (.exn 8 (.d (.int r))), none, none] (G3 (Rv r1 z l0) a b c) := xifF (etru rfl rfl eq_int) rfl
  exact snext h1 (snext h2 (snext h3 (snext h4 rfl)))
theorem t8 : exSs (runF fs gd 100 4) gd 100 fbody [some sc, some (.ref 0), some (.d (.int r)), some (.d (.int 8)), none, none, e, none, none] (G3 (Rv r1 z l0) a b c) = .next [some sc, some (.ref 0), some (.d (.int r)), some (.d (.int 8)), none, none, some (.exn 9 (.d (.int r))), none, none] (G3 (Rv r1 z l0) a b c) := by
  have h1 : exS (runF fs gd 100 4) gd 100 q1 [some sc, some (.ref 0), some (.d (.int r)), some (.d (.int 8)), none, none, e, none, none] (G3 (Rv r1 z l0) a b c) = .next [some sc, some (.ref 0), some (.d (.int r)), some (.d (.int 8)), none, none, some (.exn 9 (.d (.int r))), none, none] (G3 (Rv r1 z l0) a b c) := by kernel_rfl
  have h2 : exS (runF fs gd 100 4) gd 100 q2 [some sc, some (.ref 0), some (.d (.int r)), some (.d (.int 8)), none, none, some (.exn 9 (.d (.int r))), none, none] (G3 (Rv r1 z l0) a b c) = .next [some sc, some (.ref 0), some (.d (.int r)), some (.d (.int 8)), none, none, some (.exn 9 (.d (.int r))), none, none] (G3 (Rv r1 z l0) a b c) := by kernel_rfl
  have h3 : exS (runF fs gd 100 4) gd 100 q3 [some sc, some (.ref 0), some (.d (.int r)), some (.d (.int 8)), none, none, some (.exn 9 (.d (.int r))), none, none] (G3 (Rv r1 z l0) a b c) = .next [some sc, some (.ref 0), some (.d (.int r)), some (.d (.int 8)), none, none, some (.exn 9 (.d (.int r))), none, none] (G3 (Rv r1 z l0) a b c) := by kernel_rfl
  have h4 : exS (runF fs gd 100 4) gd 100 q4 [some sc, some (.ref 0), some (.d (.int r)), some (.d (.int 8)), none, none, some (.exn 9 (.d (.int r))), none, none] (G3 (Rv r1 z l0) a b c) = .next [some sc, some (.ref 0), some (.d (.int r)), some (.d (.int 8)), none, none, some (.exn 9 (.d (.int r))), none, none] (G3 (Rv r1 z l0) a b c) := xifF (etru rfl rfl eq_int) rfl
  exact snext h1 (snext h2 (snext h3 (snext h4 rfl)))
theorem t9 : exSs (runF fs gd 100 4) gd 100 fbody [some sc, some (.ref 0), some (.d (.int r)), some (.d (.int 9)), none, none, e, none, none] (G3 (Rv r1 z l0) a b c) = .next [some sc, some (.ref 0), some (.d (.int r)), some (.d (.int 9)), none, none, some (.exn 10 (.d (.int r))), none, none] (G3 (Rv r1 z l0) a b c) := by
  have h1 : exS (runF fs gd 100 4) gd 100 q1 [some sc, some (.ref 0), some (.d (.int r)), some (.d (.int 9)), none, none, e, none, none] (G3 (Rv r1 z l0) a b c) = .next [some sc, some (.ref 0), some (.d (.int r)), some (.d (.int 9)), none, none, some (.exn 10 (.d (.int r))), none, none] (G3 (Rv r1 z l0) a b c) := by kernel_rfl
  have h2 : exS (runF fs gd 100 4) gd 100 q2 [some sc, some (.ref 0), some (.d (.int r)), some (.d (.int 9)), none, none, some (.exn 10 (.d (.int r))), none, none] (G3 (Rv r1 z l0) a b c) = .next [some sc, some (.ref 0), some (.d (.int r)), some (.d (.int 9)), none, none, some (.exn 10 (.d (.int r))), none, none] (G3 (Rv r1 z l0) a b c) := by kernel_rfl
  have h3 : exS (runF fs gd 100 4) gd 100 q3 [some sc, some (.ref 0), some (.d (.int r)), some (.d (.int 9)), none, none, some (.exn 10 (.d (.int r))), none, none] (G3 (Rv r1 z l0) a b c) = .next [some sc, some (.ref 0), some (.d (.int r)), some (.d (.int 9)), none, none, some (.exn 10 (.d (.int r))), none, none] (G3 (Rv r1 z l0) a b c) := by kernel_rfl
  have h4 : exS (runF fs gd 100 4) gd 100 q4 [some sc, some (.ref 0), some (.d (.int r)), some (.d (.int 9)), none, none, some (.exn 10 (.d (.int r))), none, none] (G3 (Rv r1 z l0) a b c) = .next [some sc, some (.ref 0), some (.d (.int r)), some (.d (.int 9)), none, none, some (.exn 10 (.d (.int r))), none, none] (G3 (Rv r1 z l0) a b c) := xifF (etru rfl rfl eq_int) rfl
  exact snext h1 (snext h2 (snext h3 (snext h4 rfl)))
theorem t10 : exSs (runF fs gd 100 4) gd 100 fbody [some sc, some (.ref 0), some (.d (.int r)), some (.d (.int 10)), none, none, e, none, none] (G3 (Rv r1 z l0) a b c) = .next [some sc, some (.ref 0), some (.d (.int r)), some (.d (.int 10)), none, none, some (.exn 11 (.d (.int r))), none, none] (G3 (Rv r1 z l0) a b c) := by
  have h1 : exS (runF fs gd 100 4) gd 100 q1 [some sc, some (.ref 0), some (.d (.int r)), some (.d (.int 10)), none, none, e, none, none] (G3 (Rv r1 z l0) a b c) = .next [some sc, some (.ref 0), some (.d (.int r)), some (.d (.int 10)), none, none, some (.exn 11 (.d (.int r))), none, none] (G3 (Rv r1 z l0) a b c) := by kernel_rfl
  have h2 : exS (runF fs gd 100 4) gd 100 q2 [some sc, some (.ref 0), some (.d (.int r)), some (.d (.int 10)), none, none, some (.exn 11 (.d (.int r))), none, none] (G3 (Rv r1 z l0) a b c) = .next [some sc, some (.ref 0), some (.d (.int r)), some (.d (.int 10)), none, none, some (.exn 11 (.d (.int r))), none, none] (G3 (Rv r1 z l0) a b c) := by kernel_rfl
  have h3 : exS (runF fs gd 100 4) gd 100 q3 [some sc, some (.ref 0), some (.d (.int r)), some (.d (.int 10)), none, none, some (.exn 11 (.d (.int r))), none, none] (G3 (Rv r1 z l0) a b c) = .next [some sc, some (.ref 0), some (.d (.int r)), some (.d (.int 10)), none, none, some (.exn 11 (.d (.int r))), none, none] (G3 (Rv r1 z l0) a b c) := by kernel_rfl
  have h4 : exS (runF fs gd 100 4) gd 100 q4 [some sc, some (.ref 0), some (.d (.int r)), some (.d (.int 10)), none, none, some (.exn 11 (.d (.int r))), none, none] (G3 (Rv r1 z l0) a b c) = .next [some sc, some (.ref 0), some (.d (.int r)), some (.d (.int 10)), none, none, some (.exn 11 (.d (.int r))), none, none] (G3 (Rv r1 z l0) a b c) := xifF (etru rfl rfl eq_int) rfl
  exact snext h1 (snext h2 (snext h3 (snext h4 rfl)))
theorem t11 : exSs (runF fs gd 100 4) gd 100 fbody [some sc, some (.ref 0), some (.d (.int r)), some (.d (.int 11)), none, none, e, none, none] (G3 (Rv r1 z l0) a b c) = .next [some sc, some (.ref 0), some (.d (.int r)), some (.d (.int 11)), none, none, some (.exn 12 (.d (.int r))), none, none] (G3 (Rv r1 z l0) a b c) := by
  have h1 : exS (runF fs gd 100 4) gd 100 q1 [some sc, some (.ref 0), some (.d (.int r)), some (.d (.int 11)), none, none, e, none, none] (G3 (Rv r1 z l0) a b c) = .next [some sc, some (.ref 0), some (.d (.int r)), some (.d (.int 11)), none, none, some (.exn 12 (.d (.int r))), none, none] (G3 (Rv r1 z l0) a b c) := by kernel_rfl
  have h2 : exS (runF fs gd 100 4) gd 100 q2 [some sc, some (.ref 0), some (.d (.int r)), some (.d (.int 11)), none, none, some (.exn 12 (.d (.int r))), none, none] (G3 (Rv r1 z l0) a b c) = .next [some sc, some (.ref 0), some (.d (.int r)), some (.d (.int 11)), none, none, some (.exn 12 (.d (.int r))), none, none] (G3 (Rv r1 z l0) a b c) := by kernel_rfl
  have h3 : exS (runF fs gd 100 4) gd 100 q3 [some sc, some (.ref 0), some (.d (.int r)), some (.d (.int 11)), none, none, some (.exn 12 (.d (.int r))), none, none] (G3 (Rv r1 z l0) a b c) = .next [some sc, some (.ref 0), some (.d (.int r)), some (.d (.int 11)), none, none, some (.exn 12 (.d (.int r))), none, none] (G3 (Rv r1 z l0) a b c) := by kernel_rfl
  have h4 : exS (runF fs gd 100 4) gd 100 q4 [some sc, some (.ref 0), some (.d (.int r)), some (.d (.int 11)), none, none, some (.exn 12 (.d (.int r))), none, none] (G3 (Rv r1 z l0) a b c) = .next [some sc, some (.ref 0), some (.d (.int r)), some (.d (.int 11)), none, none, some (.exn 12 (.d (.int r))), none, none] (G3 (Rv r1 z l0) a b c) := xifF (etru rfl rfl eq_int) rfl
  exact snext h1 (snext h2 (snext h3 (snext h4 rfl)))
end
end Law
namespace Law
open PySem MP
theorem ev_mulS {m : Bool} {z : Str} {n : Int} {S : Sto} (h : mulOk z n = true) : op2 .mul m (.d (.str z)) (.d (.int n)) S = .ok (.d (.str (Txt.mul z n))) S := by
  show (if _ then _ else _) = _
  exact if_pos h
section
variable {sc : W} {r1 a b c : Int} {z : Str}
abbrev rhoW (sc w : W) : Rho := [some sc, some (.ref 0), some w, none, none, none, none, none, none]
theorem case0 : retOk (exSs (runF fs gd 100 4) gd 100 (tail b7 2) (rhoW sc (.d (.int r1))) (G3 (Rv r1 z l0) a b c)) = true := by
  have h : exSs (runF fs gd 100 4) gd 100 (tail b7 2) (rhoW sc (.d (.int r1))) (G3 (Rv r1 z l0) a b c) = exSs (runF fs gd 100 4) gd 100 rest [some sc, some (.ref 0), some (.d (.int r1)), some (.d (.int 11)), none, none, some (.exn 12 (.d (.int r1))), none, none] (G3 (Rv r1 z l0) a b c) := by
    refine snext (xfor (ws := [.d (.int 12)]) (sr := .rng 0 12) (n := 12) rfl rfl rfl ?_) rfl
    refine fgo (it := .one (.d (.int 0))) rfl rfl t0 ?_
    refine fgo (it := .one (.d (.int 1))) rfl rfl t1 ?_
    refine fgo (it := .one (.d (.int 2))) rfl rfl t2 ?_
    refine fgo (it := .one (.d (.int 3))) rfl rfl t3 ?_
    refine fgo (it := .one (.d (.int 4))) rfl rfl t4 ?_
    refine fgo (it := .one (.d (.int 5))) rfl rfl t5 ?_
    refine fgo (it := .one (.d (.int 6))) rfl rfl t6 ?_
    refine fgo (it := .one (.d (.int 7))) rfl rfl t7 ?_
    refine fgo (it := .one (.d (.int 8))) rfl rfl t8 ?_
    refine fgo (it := .one (.d (.int 9))) rfl rfl t9 ?_
    refine fgo (it := .one (.d (.int 10))) rfl rfl t10 ?_
    refine fgo (it := .one (.d (.int 11))) rfl rfl t11 ?_
    exact fend rfl
  rw [h]
  exact rest_ok
theorem case10 : retOk (exSs (runF fs gd 100 4) gd 100 (tail b7 2) (rhoW sc (.d (.str (Txt.mul "ab" 0)))) (G3 (Rv r1 z l0) a b c)) = true := by kernel_rfl
theorem case11 : retOk (exSs (runF fs gd 100 4) gd 100 (tail b7 2) (rhoW sc (.d (.str (Txt.mul "ab" 1)))) (G3 (Rv r1 z l0) a b c)) = true := by kernel_rfl
theorem case12 : retOk (exSs (runF fs gd 100 4) gd 100 (tail b7 2) (rhoW sc (.d (.str (Txt.mul "ab" 2)))) (G3 (Rv r1 z l0) a b c)) = true := by kernel_rfl
theorem case2 : retOk (exSs (runF fs gd 100 4) gd 100 (tail b7 2) (rhoW sc (.ref 1)) (G3 (Rv r1 z l0) a b c)) = true := by kernel_rfl
theorem case3 : retOk (exSs (runF fs gd 100 4) gd 100 (tail b7 2) (rhoW sc (.d .none)) (G3 (Rv r1 z l0) a b c)) = true := by kernel_rfl
theorem case4 : retOk (exSs (runF fs gd 100 4) gd 100 (tail b7 2) (rhoW sc (.d (.tuple [.int 2, .tuple [.int 3]]))) (G3 (Rv r1 z l0) a b c)) = true := by kernel_rfl
end
end Law
namespace Law
open PySem MP
theorem law_ok : ∀ ns : List Int, ns.length ≤ 63 → ∃ S, runF fs gd 100 5 7 [.d (.list (ns.map .int))] [] = .ok (.d (.bool true)) S := by
  intro ns _
  obtain ⟨a0, b, ha, hb0, hb1, hg⟩ := gen_ok (k := 2) ns
  obtain ⟨r1, a1, c1, e1, p1, q1, ha1, hc1, hc1'⟩ := rnd_ok (R := []) rfl (k := 2) (B := 10 ^ (20 : Int).toNat) ha (by decide +kernel) (by decide +kernel) hb0 hb1 (Int.le_refl 0) (by decide) (.inr (by decide +kernel))
  obtain ⟨r2, a2, c2, e2, p2, q2, ha2, hc2, hc2'⟩ := rnd_ok (R := []) rfl (k := 2) (B := 3) ha1 (by decide) (by decide +kernel) hb0 hb1 hc1 (by omega) (.inl (by decide +kernel))
  obtain ⟨r3, a3, c3, e3, p3, q3, ha3, hc3, hc3'⟩ := rnd_ok (R := Rv r1 (Txt.mul "ab" r2) l0) rfl (k := 2) (B := 5) ha2 (by decide) (by decide +kernel) hb0 hb1 hc2 (by omega) (.inl (by decide +kernel))
  have hz : mulOk "ab" r2 = true := by
    unfold mulOk
    simp only [Bool.and_eq_true, decide_eq_true_eq]
    exact ⟨⟨p2, by omega⟩, by decide⟩
  have key : ∀ w : W, ixW (.ref 2) (.d (.int r3)) (G3 (Rv r1 (Txt.mul "ab" r2) l0) a3 b c3) = .ok w (G3 (Rv r1 (Txt.mul "ab" r2) l0) a3 b c3) →
      retOk (exSs (runF fs gd 100 4) gd 100 (tail b7 2) (rhoW (.d (.list (ns.map .int))) w) (G3 (Rv r1 (Txt.mul "ab" r2) l0) a3 b c3)) = true → ∃ S, runF fs gd 100 5 7 [.d (.list (ns.map .int))] [] = .ok (.d (.bool true)) S := fun w hw hr => by
    obtain ⟨S, hS⟩ := retOk_ok hr
    have body : exSs (runF fs gd 100 4) gd 100 b7 [some (.d (.list (ns.map .int))), none, none, none, none, none, none, none, none] [] = .ret (.d (.bool true)) S := by
      refine snext (xasg (ecall (econs rfl (econs rfl rfl)) hg)) ?_
      refine snext (xasg (eix (elst (econs (ecall (econs rfl (econs (eop rfl rfl (ev_pow (by decide +kernel))) rfl)) e1)
        (econs (eop rfl (ecall (econs rfl (econs rfl rfl)) e2) (ev_mulS hz))
        (econs (elst (econs rfl (econs rfl rfl)) (show 2 ≤ lim by decide) rfl) (econs rfl (econs rfl rfl))))) (show 5 ≤ lim by decide) rfl) (ecall (econs rfl (econs rfl rfl)) e3) hw)) ?_
      exact hS
    refine ⟨[], ?_⟩
    rw [run_eq (d := f7) rfl rfl]
    show fin false 0 (exSs (runF fs gd 100 4) gd 100 b7 [some (.d (.list (ns.map .int))), none, none, none, none, none, none, none, none] []) = _
    rw [body]
    rfl
  have h3 : r3 = 0 ∨ r3 = 1 ∨ r3 = 2 ∨ r3 = 3 ∨ r3 = 4 := by omega
  have h2 : r2 = 0 ∨ r2 = 1 ∨ r2 = 2 := by omega
  rcases h3 with rfl | rfl | rfl | rfl | rfl
  · exact key _ rfl case0
  · rcases h2 with rfl | rfl | rfl
    · exact key _ rfl case10
    · exact key _ rfl case11
    · exact key _ rfl case12
  · exact key _ rfl case2
  · exact key _ rfl case3
  · exact key _ rfl case4
end Law
open PySem PySem.W PyProof.Rows in
set_option maxRecDepth 100000 in
set_option maxHeartbeats 0 in
theorem PySem.Challenge.cw_depthquestions_k01_errors_by_their_class_holds : PySem.Challenge.rw_depthquestions_k01_errors_by_their_class.Holds := by
  w_on; o_law; k_head; (case hw => w_witness2)
  k_fill
  refine MP.walk (l := PySem.Challenge.rw_depthquestions_k01_errors_by_their_class) Law.T Law.fs Law.ts Law.gd 100 5 7 rfl rfl ⟨rfl, by decide, by decide⟩ (fun w h Y => PySem.W.kIn_of Y) Law.law_ok ⟨_, _, rfl, rfl, rfl, rfl⟩ ?F (fun w => Law.bndL _)
  case F =>
    intro w mg h KX G
    refine' Law.ent KX G ?F0 ?F1 ?F2 ?F3 ?F4 ?F5 ?F6 ?F7 ?X0 ?X1 ?X2 ?X3 ?X4 ?X5 ?X6 ?X7 ?X8 ?X9 ?X10 ?X11 ?X12 ?X13 ?X14 ?z_len ?z_isinstance ?z_max ?z_sum ?z_sorted ?z_int ?z_list ?z_tuple ?z_repr ?z_set ?z_bool ?z_str ?z_dict ?z_ValueError ?z_range ?z_enumerate ?z_zip ?kit
    (case F0 => refine' MP.fnF_mk ?a ?l ?c ?k; (case a => k_is); (case l => k_is); (case c => k_is); (case k => k_is))
    (case F1 => refine' MP.fnF_mk ?a ?l ?c ?k; (case a => k_is); (case l => k_is); (case c => k_is); (case k => k_is))
    (case F2 => refine' MP.fnF_mk ?a ?l ?c ?k; (case a => k_is); (case l => k_is); (case c => k_is); (case k => k_is))
    (case F3 => refine' MP.fnF_mk ?a ?l ?c ?k; (case a => k_is); (case l => k_is); (case c => k_is); (case k => k_is))
    (case F4 => refine' MP.fnF_mk ?a ?l ?c ?k; (case a => k_is); (case l => k_is); (case c => k_is); (case k => k_is))
    (case F5 => refine' MP.fnF_mk ?a ?l ?c ?k; (case a => k_is); (case l => k_is); (case c => k_is); (case k => k_is))
    (case F6 => refine' MP.fnF_mk ?a ?l ?c ?k; (case a => k_is); (case l => k_is); (case c => k_is); (case k => k_is))
    (case F7 => refine' MP.fnF_mk ?a ?l ?c ?k; (case a => k_is); (case l => k_is); (case c => k_is); (case k => k_is))
    (case X0 => refine' MP.clX0 ?a ?k ?e; (case a => k_is); (case k => k_is); (case e => kernel_rfl))
    (case X1 => refine' MP.clX1 ?a (MP.sx_mk (st := L2.inClass (Law.top 2) 0) ?hB ?hP ?hS ?hL ?top ?lC ?rv ?b ?i1 ?ti ?lf ?cq ?lc ?hvs ?hf ?lcell ?ltd); (case a => k_is); (case lC => k_is); (case rv => rfl); (case i1 => k_is); (case ti => k_is); (case lf => k_is); (case cq => k_is); (case lc => k_is); (case hvs => rfl); (case hf => kernel_rfl); (case lcell => k_is); (case ltd => k_is); (case b => kernel_rfl); (case hB => rfl); (case hP => rfl); (case hS => rfl); (case hL => rfl); (case top => kernel_rfl))
    (case X2 => refine' MP.clX1 ?a (MP.sx_mk (st := L2.inClass (Law.top 3) 0) ?hB ?hP ?hS ?hL ?top ?lC ?rv ?b ?i1 ?ti ?lf ?cq ?lc ?hvs ?hf ?lcell ?ltd); (case a => k_is); (case lC => k_is); (case rv => rfl); (case i1 => k_is); (case ti => k_is); (case lf => k_is); (case cq => k_is); (case lc => k_is); (case hvs => rfl); (case hf => kernel_rfl); (case lcell => k_is); (case ltd => k_is); (case b => kernel_rfl); (case hB => rfl); (case hP => rfl); (case hS => rfl); (case hL => rfl); (case top => kernel_rfl))
    (case X3 => refine' MP.clX1 ?a (MP.sx_mk (st := L2.inClass (Law.top 4) 0) ?hB ?hP ?hS ?hL ?top ?lC ?rv ?b ?i1 ?ti ?lf ?cq ?lc ?hvs ?hf ?lcell ?ltd); (case a => k_is); (case lC => k_is); (case rv => rfl); (case i1 => k_is); (case ti => k_is); (case lf => k_is); (case cq => k_is); (case lc => k_is); (case hvs => rfl); (case hf => kernel_rfl); (case lcell => k_is); (case ltd => k_is); (case b => kernel_rfl); (case hB => rfl); (case hP => rfl); (case hS => rfl); (case hL => rfl); (case top => kernel_rfl))
    (case X4 => refine' MP.clX1 ?a (MP.sx_mk (st := L2.inClass (Law.top 5) 0) ?hB ?hP ?hS ?hL ?top ?lC ?rv ?b ?i1 ?ti ?lf ?cq ?lc ?hvs ?hf ?lcell ?ltd); (case a => k_is); (case lC => k_is); (case rv => rfl); (case i1 => k_is); (case ti => k_is); (case lf => k_is); (case cq => k_is); (case lc => k_is); (case hvs => rfl); (case hf => kernel_rfl); (case lcell => k_is); (case ltd => k_is); (case b => kernel_rfl); (case hB => rfl); (case hP => rfl); (case hS => rfl); (case hL => rfl); (case top => kernel_rfl))
    (case X5 => refine' MP.clX1 ?a (MP.sx_mk (st := L2.inClass (Law.top 6) 0) ?hB ?hP ?hS ?hL ?top ?lC ?rv ?b ?i1 ?ti ?lf ?cq ?lc ?hvs ?hf ?lcell ?ltd); (case a => k_is); (case lC => k_is); (case rv => rfl); (case i1 => k_is); (case ti => k_is); (case lf => k_is); (case cq => k_is); (case lc => k_is); (case hvs => rfl); (case hf => kernel_rfl); (case lcell => k_is); (case ltd => k_is); (case b => kernel_rfl); (case hB => rfl); (case hP => rfl); (case hS => rfl); (case hL => rfl); (case top => kernel_rfl))
    (case X6 => refine' MP.clX1 ?a (MP.sx_mk (st := L2.inClass (Law.top 7) 0) ?hB ?hP ?hS ?hL ?top ?lC ?rv ?b ?i1 ?ti ?lf ?cq ?lc ?hvs ?hf ?lcell ?ltd); (case a => k_is); (case lC => k_is); (case rv => rfl); (case i1 => k_is); (case ti => k_is); (case lf => k_is); (case cq => k_is); (case lc => k_is); (case hvs => rfl); (case hf => kernel_rfl); (case lcell => k_is); (case ltd => k_is); (case b => kernel_rfl); (case hB => rfl); (case hP => rfl); (case hS => rfl); (case hL => rfl); (case top => kernel_rfl))
    (case X7 => refine' MP.clX1 ?a (MP.sx_mk (st := L2.inClass (Law.top 8) 0) ?hB ?hP ?hS ?hL ?top ?lC ?rv ?b ?i1 ?ti ?lf ?cq ?lc ?hvs ?hf ?lcell ?ltd); (case a => k_is); (case lC => k_is); (case rv => rfl); (case i1 => k_is); (case ti => k_is); (case lf => k_is); (case cq => k_is); (case lc => k_is); (case hvs => rfl); (case hf => kernel_rfl); (case lcell => k_is); (case ltd => k_is); (case b => kernel_rfl); (case hB => rfl); (case hP => rfl); (case hS => rfl); (case hL => rfl); (case top => kernel_rfl))
    (case X8 => refine' MP.clX1 ?a (MP.sx_mk (st := L2.inClass (Law.top 9) 0) ?hB ?hP ?hS ?hL ?top ?lC ?rv ?b ?i1 ?ti ?lf ?cq ?lc ?hvs ?hf ?lcell ?ltd); (case a => k_is); (case lC => k_is); (case rv => rfl); (case i1 => k_is); (case ti => k_is); (case lf => k_is); (case cq => k_is); (case lc => k_is); (case hvs => rfl); (case hf => kernel_rfl); (case lcell => k_is); (case ltd => k_is); (case b => kernel_rfl); (case hB => rfl); (case hP => rfl); (case hS => rfl); (case hL => rfl); (case top => kernel_rfl))
    (case X9 => refine' MP.clX1 ?a (MP.sx_mk (st := L2.inClass (Law.top 10) 0) ?hB ?hP ?hS ?hL ?top ?lC ?rv ?b ?i1 ?ti ?lf ?cq ?lc ?hvs ?hf ?lcell ?ltd); (case a => k_is); (case lC => k_is); (case rv => rfl); (case i1 => k_is); (case ti => k_is); (case lf => k_is); (case cq => k_is); (case lc => k_is); (case hvs => rfl); (case hf => kernel_rfl); (case lcell => k_is); (case ltd => k_is); (case b => kernel_rfl); (case hB => rfl); (case hP => rfl); (case hS => rfl); (case hL => rfl); (case top => kernel_rfl))
    (case X10 => refine' MP.clX1 ?a (MP.sx_mk (st := L2.inClass (Law.top 11) 0) ?hB ?hP ?hS ?hL ?top ?lC ?rv ?b ?i1 ?ti ?lf ?cq ?lc ?hvs ?hf ?lcell ?ltd); (case a => k_is); (case lC => k_is); (case rv => rfl); (case i1 => k_is); (case ti => k_is); (case lf => k_is); (case cq => k_is); (case lc => k_is); (case hvs => rfl); (case hf => kernel_rfl); (case lcell => k_is); (case ltd => k_is); (case b => kernel_rfl); (case hB => rfl); (case hP => rfl); (case hS => rfl); (case hL => rfl); (case top => kernel_rfl))
    (case X11 => refine' MP.clX1 ?a (MP.sx_mk (st := L2.inClass (Law.top 12) 0) ?hB ?hP ?hS ?hL ?top ?lC ?rv ?b ?i1 ?ti ?lf ?cq ?lc ?hvs ?hf ?lcell ?ltd); (case a => k_is); (case lC => k_is); (case rv => rfl); (case i1 => k_is); (case ti => k_is); (case lf => k_is); (case cq => k_is); (case lc => k_is); (case hvs => rfl); (case hf => kernel_rfl); (case lcell => k_is); (case ltd => k_is); (case b => kernel_rfl); (case hB => rfl); (case hP => rfl); (case hS => rfl); (case hL => rfl); (case top => kernel_rfl))
    (case X12 => refine' MP.clX1 ?a (MP.sx_mk (st := L2.inClass (Law.top 13) 0) ?hB ?hP ?hS ?hL ?top ?lC ?rv ?b ?i1 ?ti ?lf ?cq ?lc ?hvs ?hf ?lcell ?ltd); (case a => k_is); (case lC => k_is); (case rv => rfl); (case i1 => k_is); (case ti => k_is); (case lf => k_is); (case cq => k_is); (case lc => k_is); (case hvs => rfl); (case hf => kernel_rfl); (case lcell => k_is); (case ltd => k_is); (case b => kernel_rfl); (case hB => rfl); (case hP => rfl); (case hS => rfl); (case hL => rfl); (case top => kernel_rfl))
    (case X13 => refine' MP.clX0 ?a ?k ?e; (case a => k_is); (case k => k_is); (case e => kernel_rfl))
    (case X14 => refine' MP.clX0 ?a ?k ?e; (case a => k_is); (case k => k_is); (case e => kernel_rfl))
    (case z_len => k_is)
    (case z_isinstance => k_is)
    (case z_max => k_is)
    (case z_sum => k_is)
    (case z_sorted => k_is)
    (case z_int => k_is)
    (case z_list => k_is)
    (case z_tuple => k_is)
    (case z_repr => k_is)
    (case z_set => k_is)
    (case z_bool => k_is)
    (case z_str => k_is)
    (case z_dict => k_is)
    (case z_ValueError => k_is)
    (case z_range => k_is)
    (case z_enumerate => k_is)
    (case z_zip => k_is)
    (case kit => kernel_rfl)
