import PyProof.Rows.All
import Wide.All
import OpenK.AllK
import Wide.FinOn
import HandS.ForMost
import HandS.Exc
import HandS.ExcOwn
import HandS.TryOnly
import HandS.IsInst
import HandS.Deep
import HandS.Wide
import HandS.WideBits
import HandS.TupAny
import HandS.Flow
import HandS.Style
import HandS.Walk
import HandS.WordsExc
import HandS.ExcInit
import HandS.ExcField
import HandS.ExcIs
import HandS.Ends
import KE.KExcSuper
import HandS.ExcValue
import HandS.ExcSuper
import KE.KExcIs
import HandS.More
import HandS.Set
import HandS.SetKeys
import HandS.TupSets
import KE.SortData
import HandS.Conv
import KE.DataMinMax
import HandS.Zip
import KE.GoesEnumKw
import HandS.CallRecv
import HandS.Star
import HandS.DictComp
import HandS.RaiseMore
import HandS.HeadHook3
import PySem.Challenge.RW_depthquestions_k63_too_many_cuts
set_option Elab.async false
set_option linter.all false
set_option maxRecDepth 100000
set_option maxHeartbeats 3900000
namespace MPX
open PySem PySem.W PySem.Calls PyProof.Rows PySem.Spec PySem.HandSPX
/-! ## an own error's __init__: super().__init__(); self.value = value -/
abbrev iBody (p : Nat → Pos) : List PySem.Stmt := [.Expr (.Call (.Attribute (.Call (.Name "super" (p 0)) [] [] (p 1)) "__init__" (p 2)) [] [] (p 3)) (p 4), .Assign [.Attribute (.Name "self" (p 5)) "value" (p 6)] (.Name "value" (p 7)) (p 8)]
abbrev iPar (p : Nat → Pos) : Arguments := { posonlyargs := [], args := [{ arg := "self", annotation := none, pos := p 0 }, { arg := "value", annotation := none, pos := p 1 }], vararg := none, kwonlyargs := [], kw_defaults := [], kwarg := none, defaults := [.Constant .none 0 (p 2)] }
abbrev iSc : Scope := { kind := .function, names := [(PySem.Str.ofString "self", .local), (PySem.Str.ofString "value", .local), (PySem.Str.ofString "__class__", .free), (PySem.Str.ofString "super", .globalImplicit)], isGenerator := false, isCoroutine := false, more := [] }
structure SxT (prog : Program) (K : Frag) (C : Addr) : Prop where
  cls : ∃ nm qn N bs bm sn sub ab col dd k0 k1 k2 k3 k5, K.lookup C = some (excClassObj nm qn C N bs bm true sn sub ab col dd k0 k1 k2 k3 k5 "ValueError.__new__") ∧ refsVE bm = true
  sa : findIn K (.ref C) "__setattr__" = some (some (.builtin "object.__setattr__"))
  noN : findIn K (.ref C) "value" = some none
  kC : keepIn K (.ref C) = true
  exC : subIn K (.ref C) (.type "BaseException") = some true
  tyC : typeIn K (.ref C) = some (.type "type")
  subB : subIn K (.ref C) (.type "ValueError") = some true
  own : mroIn K C (.ref C) = some true
  sup : ks_superIn K C C "__init__" = some (some (.builtin "ValueError.__init__"))
  exI : excInitIn K C (veTail) "ValueError.__new__" = true
  st0 : nsIn K cStatics "thirdparty.any" = some none
  supG : nsIn K mainGlobals "super" = some none
  top : (prog.main.scope.names.lookup ("super" : Str)).isSome = false
  fn : ∃ (fI cc cda : Addr) (q : Str) (oc : Value) (od : Option Addr) (td : Addr) (doc pm : Value) (an : Option Addr) (ct : Value) (osl : Array (Option Value)) (p p' : Nat → Pos),
    findIn K (.ref C) "__init__" = some (some (.ref fI)) ∧ typeIn K (.ref fI) = some (.type "function") ∧
    K.lookup fI = some ⟨oc, od, .func (ksFn "__init__" q (iPar p') (iBody p) iSc (.ref td) .none doc pm an (.ref cda) ct cc), osl⟩ ∧ codeIn K (.ref cda) q = true ∧ ((p 2).endLine == (p 3).line) = true ∧
    (∃ ccl cdd vs ccs file tf, K.lookup cda = some ⟨ccl, cdd, .fields vs, ccs⟩ ∧ vs[2]? = some (.str file tf) ∧ ((prog.main.file : Str) == file) = true) ∧
    (∃ cl cld csl, K.lookup cc = some ⟨cl, cld, .cell (some (.ref C)), csl⟩) ∧ (∃ to tod tsl tn, K.lookup td = some ⟨to, tod, .seq #[.none] tn, tsl⟩)
section
variable {prog : Program} {w : World} {A : Around} {R : Result → Shared → Prop} {s : Shared} {K : Frag} {C : Addr}
theorem sx_node {body : List Stmt} {q : Str} {scope : Scope} {p0 p1 : Pos} {attr : Str} {whole : Sem Value} {fd : FuncData} {ar : Arg} {vs : Array Value} {file : Str} {tf : Tok} {oc ccl cl : Value} {od cdd cld : Option Addr} {osl ccs csl : Array (Option Value)} {cdD : ClassData} {Q : Value → Shared → Prop}
    {h₀ : Heap} {L f cda cc D x : Addr} {m mg mb : Str → Option Value} {news : List (Addr × Obj)} {ox : Obj} {odx : Option Obj} {E : Value → Shared → Prop}
    (F : Fr h₀ L s.heap m) (X₀ : K.In h₀) (N : News h₀ L s.heap news) (Tg : h₀.Ns mainGlobals mg) (Tb : h₀.Ns builtinsNs mb) (Tbb : ∀ x : Str, x ≠ "__name__" → mb x = bootBuiltins x)
    (hf : K.lookup f = some ⟨oc, od, .func fd, osl⟩) (hp : (fd.params.posonlyargs ++ fd.params.args).head? = some ar) (hv : m ar.arg = some (.ref x)) (I : InstAt s.heap x ox C odx)
    (hcode : K.lookup cda = some ⟨ccl, cdd, .fields vs, ccs⟩) (hvs : vs[2]? = some (.str file tf)) (hfile : ((prog.main.file : Str) == file) = true)
    (hcell : K.lookup cc = some ⟨cl, cld, .cell (some (.ref D)), csl⟩) (hD : clsIn K D = some cdD) (hsub : mroIn K C (.ref D) = some true) (hsuper : nsIn K mainGlobals "super" = some none)
    (hat : (attr == ("__class__" : Str)) = false) (hks : scope.names.lookup ("super" : Str) = some .globalImplicit) (hkc : scope.names.lookup ("__class__" : Str) = some .free) (hka : scope.names.lookup ar.arg = some .local) (hk : scope.kind = .function)
    (htop : (prog.main.scope.names.lookup ("super" : Str)).isSome = false) (hboot : bootBuiltins "super" = some (.type "super"))
    (h : ∀ so h', Fr h₀ L h' m → News h₀ L h' ((so, ks_superObj D x C) :: news) → (∀ p ∈ news, p.1 < so) → (∀ b o, s.heap.get? b = some o → h'.get? b = some o) → Q (.ref so) { s with heap := h' }) :
    _root_.PySem.wpAt (model prog w) A (.func body (ksEnv q scope L f (.ref cda) cc)) (attributeBase (.Call (.Name "super" p0) [] [] p1) attr (ksEnv q scope L f (.ref cda) cc) whole) Q E s := by
  have X : K.In s.heap := X₀.keeps F.keep
  obtain ⟨hh, g, d, t, os⟩ := s
  obtain ⟨oD, hD1, hD2⟩ : ∃ oD, hh.get? D = some oD ∧ oD.data = .cls cdD := by
    unfold clsIn at hD
    split at hD
    · rename_i c d cd' sl ho
      cases hD
      exact ⟨_, X _ _ ho, rfl⟩
    · cases hD
  refine ks_wpAt_super_base (env := ksEnv q scope L f (.ref cda) cc) hks hkc hat rfl (X _ _ hf) rfl hp rfl (X _ _ hcode) rfl hvs hfile htop ?_
  refine ks_loadName_global hk hks (loadGlobal_builtin (env := ksEnv q scope L f (.ref cda) cc) (Tg.keeps F.keep) (mg_none_of X₀ Tg hsuper) (Tb.keeps F.keep) ((Tbb _ (by decide +kernel)).trans hboot) ⟨rfl, ?_⟩)
  refine wpAny_loadName_free hk hkc rfl ⟨_, X _ _ hcell, rfl⟩ ?_
  refine wpAny_loadName_local hk hka F.ns hv ?_
  refine ks_wpAny_isType_cls hD1 hD2 ⟨rfl, ?_⟩
  refine ks_wpAny_call_super hD1 hD2 I.at_ I.cls (fun c e => ?_) (looks_mroIn X hsub) (fun h' e k => ?_)
  · have := I.no
    unfold notCls at this
    rw [e] at this
    exact Bool.noConfusion this
  · obtain ⟨F', N', l'⟩ := ks_newsPush (s := ⟨hh, g, d, t, os⟩) F N rfl e k
    exact h _ _ F' N' l' k
theorem he_line {o : PySem.Expr} {name : Str} {apos pos : Pos} {env : Env} (hline : (apos.endLine == pos.line) = true) : eval (.Call (.Attribute o name apos) [] [] pos) env = (do
    let ov ← attributeBase o name env (eval o env)
    standAt apos.atName
    let (f, first) ← holding [ov] (getMethod ov name (do return (← importBound o env).getD true))
    callWith pos f first (backTo pos (starEach [] env)) []) := by
  rw [arm_eval_Call]
  have hpos : methodCallPos true o env apos pos = pure pos := by unfold methodCallPos; simp [hline]
  have hf : methodCallForm (0 + 0) (backTo pos (starEach [] env)) (backToKw pos (keywordEach [] env)) = true := rfl
  have hm : ∀ ov, methodCall o name apos pos env ov (([] : List PySem.Expr).length + ([] : List Keyword).length) (backTo pos (starEach [] env)) (backToKw pos (keywordEach [] env)) = (do
      let (f, first) ← holding [ov] (getMethod ov name (do return (← importBound o env).getD true))
      callWith pos f first (backTo pos (starEach [] env)) []) := fun ov => by
    unfold methodCall
    show (do
      let (f, first) ← holding [ov] (calleeOf true o env ov name)
      let callPos ← methodCallPos true o env apos pos
      callWith callPos f first (backTo pos (starEach [] env)) []) = _
    rw [hpos]
    rfl
  simp only [hm]
theorem sx_init {hp : Heap} {x t0 fI cc cda td : Addr} {q : Str} {oc doc pm ct v : Value} {od an : Option Addr} {osl : Array (Option Value)} {p p' : Nat → Pos} {args : Args} {mg mb : Str → Option Value}
    (T : SxT prog K C) (lf : K.lookup fI = some ⟨oc, od, .func (ksFn "__init__" q (iPar p') (iBody p) iSc (.ref td) .none doc pm an (.ref cda) ct cc), osl⟩) (hcd : codeIn K (.ref cda) q = true)
    (code : ∃ ccl cdd vs ccs file tf, K.lookup cda = some ⟨ccl, cdd, .fields vs, ccs⟩ ∧ vs[2]? = some (.str file tf) ∧ ((prog.main.file : Str) == file) = true) (cell : ∃ cl cld csl, K.lookup cc = some ⟨cl, cld, .cell (some (.ref C)), csl⟩)
    (X : K.In hp) (k0 : ∀ b o, hp.get? b = some o → s.heap.get? b = some o) (hsz : hp.objs.size ≤ s.heap.objs.size) (xn : hp.get? x = none) (hx : s.heap.get? x = some (excO C t0)) (Tg : hp.Ns mainGlobals mg) (Tb : hp.Ns builtinsNs mb) (Tbb : ∀ x : Str, x ≠ "__name__" → mb x = bootBuiltins x)
    (hlim : s.heap.NoLimit) (hroom : A.depth < recursionLimit) (hline : ((p 2).endLine == (p 3).line) = true) (hb : BindsTo s (ksFn "__init__" q (iPar p') (iBody p) iSc (.ref td) .none doc pm an (.ref cda) ct cc) args [("self", .ref x), ("value", v)])
    (hq : ∀ h' tk dx t1, (∀ b o, hp.get? b = some o → h'.get? b = some o) → hp.objs.size ≤ dx → dx ≠ x → h'.get? x = some ({ cls := .ref C, dict := some dx, data := .fields #[.ref t1, .none, .none, .none, .bool false, .none] } : Obj) →
      h'.Ns1 dx (fun y => if y = "value" then some v else none) → R (.ok (.ret .none)) { s with heap := h', toks := tk }) :
    codeAny (model prog w) A (.call (.ref fI) args) R s := by
  obtain ⟨nm, qn, N, bs, bm, sn, sub, ab, col, dd, c0, c1, c2, c3, c5, hC, hbm⟩ := T.cls
  have hcl : clsIn K C = some { name := nm, bases := bs, mro := .ref C :: bm, ns := N, qualname := qn, hasDict := true, slotNames := sn, subclasses := sub, abstract := ab, collection := col, hasDel := false } := by unfold clsIn; rw [hC] <;> rfl
  obtain ⟨ccl, cdd, vs, ccs, file, tf, lc, hvs, hfile⟩ := code
  obtain ⟨cl, cld, csl, lcell⟩ := cell
  have X1 : K.In s.heap := X.keeps k0
  refine ks_codeAny_call_defAt (binds := [("self", .ref x), ("value", v)]) hroom (X1 _ _ lf) rfl hlim (codeRec_of X1 hcd) rfl hb (show ∀ y ∈ iSc.names, y.2 ≠ .cell from by decide +kernel) (fun y hy => by
    rcases List.mem_cons.mp hy with rfl | hy
    · exact (by decide +kernel : iSc.names.lookup ("self" : Str) = some .local)
    · rcases List.mem_cons.mp hy with rfl | hy
      · exact (by decide +kernel : iSc.names.lookup ("value" : Str) = some .local)
      · cases hy) (fun h₁ hns hk₁ => ?_)
  have Fr1 : Fr hp s.heap.objs.size h₁ (fun y => [(("self" : Str), Value.ref x), (("value" : Str), v)].reverse.lookup y) := ⟨hns, fun b o e => hk₁ b o (k0 b o e), hsz⟩
  have N1 : News hp s.heap.objs.size h₁ [(x, excObj C t0 none .none)] := fun z hz => by
    rw [List.mem_singleton] at hz
    subst hz
    exact ⟨hk₁ _ _ hx, Nat.ne_of_lt (Heap.lt_size hx), xn⟩
  refine ks_wpAt_execs_cons ?_
  refine ks_wpAt_Expr_any (ks_wpAt_MethodCall (sx_node (x := x) (ox := excObj C t0 none .none) (odx := none) Fr1 X N1 Tg Tb Tbb lf rfl rfl ⟨(N1 _ List.mem_cons_self).1, rfl, rfl, trivial⟩ lc hvs hfile lcell hcl T.own T.supG (by decide +kernel) (show iSc.names.lookup ("super" : Str) = _ from by decide +kernel) (show iSc.names.lookup ("__class__" : Str) = _ from by decide +kernel) (show iSc.names.lookup ("self" : Str) = _ from by decide +kernel) rfl T.top (by first | rfl | kernel_rfl) fun so h2 F2 N2 l2 k2 => ?_) (he_line hline)) (by rfl) (by rfl)
  refine kxs_method (x := x) (ox := excObj C t0 none .none) (odx := none) kxs_ValueError F2 X N2 List.mem_cons_self ⟨(N2 _ (.tail _ List.mem_cons_self)).1, rfl, rfl, trivial⟩ T.st0 T.sup T.subB (by decide) fun u h3 F3 N3 l3 => ?_
  refine kxs_callWith0 N3 List.mem_cons_self ?_
  refine kxs_call (t := t0) (dv := none) (c2 := .none) F3 X N3 PySem.F.excBase_ValueError T.exI List.mem_cons_self (.tail (Nat.ne_of_gt (l3 _ (.tail _ List.mem_cons_self))) (.tail (Nat.ne_of_gt (l2 _ List.mem_cons_self)) (.head (fun p hp => nomatch hp)))) (Nat.zero_le _) fun t1 h4 F4 N4 l4 => ?_
  refine wpAt_of_wpAny ?_
  have X4 : K.In h4 := X.keeps F4.keep
  have hx4 : h4.get? x = some (excObj C t1 none .none) := (N4 (x, excObj C t1 none .none) (by simp)).1
  refine wpAny_execs_cons (plainObj_wpAny_Assign_Attribute ?_)
  refine ESX.ldL (v := v) F4.ns (by first | rfl | with_unfolding_all rfl | kernel_rfl) (ESX.ldL (v := .ref x) F4.ns (by first | rfl | with_unfolding_all rfl | kernel_rfl) ?_)
  refine set_plain X4 (ox := excObj C t1 none .none) (od := none) ⟨hx4, rfl, rfl, trivial⟩ T.sa ?_
  refine exc_osa X4 hx4 hcl (show refsVE (.ref C :: bm) = true from hbm) rfl T.noN (fun h5 tk5 dx k5 dn dne hx5 hn5 => ?_)
  refine wpAny_execs_nil (hq h5 _ dx t1 (fun b o e => k5 b o (fun z => by rw [z, xn] at e; cases e) (F4.keep b o e)) ?_ dne hx5 hn5)
  obtain ⟨oL, es, ep, hL, _⟩ := F4.ns
  have e1 : s.heap.objs.size < h4.objs.size := Heap.lt_size (show h4.get? s.heap.objs.size = some oL from hL)
  have e2 : h4.objs.size ≤ dx := dn
  exact Nat.le_trans hsz (Nat.le_trans (Nat.le_of_lt e1) e2)
end
end MPX
namespace MPX
open PySem PySem.W PySem.Calls PyProof.Rows PySem.Spec PySem.HandSPX L2
section
variable {fs ex : List Addr} {H : Hp} {h h' : Heap} {a b : Addr} {o u : HO}
theorem new_ne {c : Addr} {v : Obj} (hb : h.get? b = none) (q : h.get? c = some v) : c ≠ b := fun z => by rw [z, hb] at q; cases q
theorem Un.laid2 (k : ∀ c v, h.get? c = some v → h'.get? c = some v) (ha : h.get? a = none) (hb : h.get? b = none) (na : H a = none) (nb : H b = none) : Un fs ex H (upd (upd H b u) a o) h h' where
  keep := fun c v q _ _ _ => k c v q
  slot := fun c v q _ _ _ => ⟨v.slots, k c v q⟩
  free := fun c v q n _ => by rw [upd_ne (new_ne ha q), upd_ne (new_ne hb q)]; exact n
  there := fun c v q _ => ⟨v, k c v q⟩
  tups := fun c xs q => by rw [upd_ne (ne_of_none q na), upd_ne (ne_of_none q nb)]; exact q
  frzs := fun c v xs q => by rw [upd_ne (ne_of_none q na), upd_ne (ne_of_none q nb)]; exact q
  tbls := fun c ps q => ⟨#[], by rw [upd_ne (ne_of_none q na), upd_ne (ne_of_none q nb), q]; simp⟩
theorem HOk.laid2 {P : Program} {w : World} (x : HOk P w H h) (k : ∀ c v, h.get? c = some v → h'.get? c = some v) (na : H a = none) (nb : H b = none) (oa : ObjOk P w (upd (upd H b u) a o) h' a o) (ob : ObjOk P w (upd (upd H b u) a o) h' b u) : HOk P w (upd (upd H b u) a o) h' := fun c v e => by
  by_cases hc : c = a
  · subst hc
    rw [upd_same] at e
    cases e
    exact oa
  · rw [upd_ne hc] at e
    by_cases hd : c = b
    · subst hd
      rw [upd_same] at e
      cases e
      exact ob
    · rw [upd_ne hd] at e
      exact (x c v e).stay (fun c v _ q => k c v q) (fun c q => by rw [upd_ne (ne_of_none q na), upd_ne (ne_of_none q nb)]; exact q) fun c xs q => by rw [upd_ne (ne_of_none q na), upd_ne (ne_of_none q nb)]; exact q
end
/-- at e: an own error, made or caught; its dict, none or at d -/
def exo (e C : Addr) (d : Option Addr) : HO := .ext fun h => ∃ o : Obj, h.get? e = some o ∧ o.cls = .ref C ∧ o.dict = d ∧ ∃ vs : Array Value, o.data = .fields vs
abbrev exd (_ : Addr) (fs : List (PySem.Str × V)) : HO := .xd fs
theorem exo_of {P : Program} {w : World} {H : Hp} {h : Heap} {e C : Addr} {d : Option Addr} {o : Obj} {vs : Array Value} (ho : h.get? e = some o) (hc : o.cls = .ref C) (hd : o.dict = d) (hf : o.data = .fields vs) : ObjOk P w H h e (exo e C d) :=
  ⟨⟨o, ho, hc, hd, vs, hf⟩, ⟨o, ho⟩, fun _ _ ⟨o2, e2, r2⟩ k => ⟨o2, k _ e2, r2⟩⟩
theorem exo_ok {P : Program} {w : World} {H : Hp} {h : Heap} {e C t1 : Addr} {d : Option Addr} (he : h.get? e = some ({ cls := .ref C, dict := d, data := .fields #[.ref t1, .none, .none, .none, .bool false, .none] } : Obj)) : ObjOk P w H h e (exo e C d) := exo_of he rfl rfl rfl
theorem exd_ok {P : Program} {w : World} {H : Hp} {h : Heap} {dx : Addr} {fs : List (PySem.Str × V)} {mA : PySem.Str → Option Value} (hn : h.Ns1 dx mA) (r : ∀ f, RelO (fs.lookup f) (mA f)) : ObjOk P w H h dx (exd dx fs) := ⟨mA, hn, r⟩
theorem exo_get {P : Program} {w : World} {H : Hp} {h : Heap} {e C : Addr} {d : Option Addr} (hok : HOk P w H h) (he : H e = some (exo e C d)) : ∃ o : Obj, h.get? e = some o ∧ o.cls = .ref C ∧ o.dict = d ∧ ∃ vs : Array Value, o.data = .fields vs := by
  have z : ObjOk P w H h e (exo e C d) := hok e _ he
  exact z.1
theorem exd_get {P : Program} {w : World} {H : Hp} {h : Heap} {dx : Addr} {fs : List (PySem.Str × V)} (hok : HOk P w H h) (he : H dx = some (exd dx fs)) : ∃ mA, h.Ns1 dx mA ∧ ∀ f, RelO (fs.lookup f) (mA f) := by
  have z : ObjOk P w H h dx (.xd fs) := hok dx _ he
  exact z
theorem instAt_none {h : Heap} {e C : Addr} {o : Obj} {vs : Array Value} (ho : h.get? e = some o) (hc : o.cls = .ref C) (hd : o.dict = none) (hf : o.data = .fields vs) : InstAt h e o C none := ⟨ho, hc, by unfold notCls; rw [hf] <;> rfl, by rw [hd]; trivial⟩
theorem instAt_some {h : Heap} {e C d : Addr} {o od : Obj} {vs : Array Value} (ho : h.get? e = some o) (hc : o.cls = .ref C) (hd : o.dict = some d) (hf : o.data = .fields vs) (hod : h.get? d = some od) : InstAt h e o C (some od) := ⟨ho, hc, by unfold notCls; rw [hf] <;> rfl, by rw [hd]; exact hod⟩
/-- C(e), C an own error whose __init__ keeps the value -/
def tMkV (C : Addr) (ta : TE) : TE := fun σ H Q => ta σ H fun v H1 => ∀ a d, H1 a = none → H1 d = none → d ≠ a → Q (.ref a) (upd (upd H1 d (exd d [("value", v)])) a (exo a C (some d)))
section
variable {X : Cx} {C : Addr} {x : PySem.Str} {e : PySem.Expr} {ta : TE} {p pos : Pos}
theorem relO_value {v : V} {u : Value} (r : RelV v u) (f : PySem.Str) : RelO ([(("value" : PySem.Str), v)].lookup f) (if f = "value" then some u else none) := relO_put (fs := []) (mA := fun _ => none) r (fun _ => trivial) f
theorem made_end {pins : List (Addr × Obj)} {σ : L2.St} {H : Hp} {s : Shared} {h' : Heap} {tk : Nat} {a d t1 : Addr} {v : V} {u : Value} (I : Inv X pins σ H s) (r : RelV v u) (k : ∀ b o, s.heap.get? b = some o → h'.get? b = some o)
    (ha : s.heap.objs.size ≤ a) (hd : s.heap.objs.size ≤ d) (hne : d ≠ a) (ho : h'.get? a = some ({ cls := .ref C, dict := some d, data := .fields #[.ref t1, .none, .none, .none, .bool false, .none] } : Obj)) (hn : h'.Ns1 d (fun y => if y = "value" then some u else none)) :
    Inv X pins σ (upd (upd H d (exd d [("value", v)])) a (exo a C (some d))) { s with heap := h', toks := tk } := by
  have na : H a = none := I.hok.fresh ha
  have nd : H d = none := I.hok.fresh hd
  have g : ∀ {b : Addr}, s.heap.objs.size ≤ b → s.heap.get? b = none := fun {b} hb => by
    cases e : s.heap.get? b with
    | none => rfl
    | some o => exact absurd (Heap.lt_size e) (Nat.not_lt.mpr hb)
  exact I.un (Un.laid2 k (g ha) (g hd) na nd) (HOk.laid2 I.hok k na nd (exo_ok ho) (exd_ok hn (relO_value r)))
theorem call_made {pins : List (Addr × Obj)} {σ : L2.St} {H : Hp} {s : Shared} {E : Value → Shared → Prop} {Q : Value → Shared → Prop} {u : Value} {v : V} {k : Nat} (T : SxT X.prog X.K C) (hr : Room k X.A) (I : Inv X pins σ H s) (r : RelV v u)
    (hq : ∀ a d s', H a = none → H d = none → d ≠ a → Inv X pins σ (upd (upd H d (exd d [("value", v)])) a (exo a C (some d))) s' → Q (.ref a) s') : wpAny (model X.prog X.w) X.A (call (.ref C) [u]) Q E s := by
  obtain ⟨nm, q, N, bs, bm, sn, sub, ab, col, dd, k0, k1, k2, k3, k5, hC, hbm⟩ := T.cls
  obtain ⟨fI, cc, cda, qq, oc, od, td, doc, pm, an, ct, osl, pp, pp', iC, tI, lf, hcd, hline, code, cell, htd⟩ := T.fn
  have hlim := I.nolimit
  have IK := I.kIn
  have M := I.ok.mod
  obtain ⟨mb, hmb, hbb⟩ := M.blt
  obtain ⟨hp, g, dr, tk, os⟩ := s
  have kb : ∀ b o, X.base.get? b = some o → hp.get? b = some o := I.bk
  obtain ⟨to, tod, tsl, tn, htd⟩ := htd
  have kk : ∀ b o, hp.get? b = some o → ((hp.push (PySem.W.kdv_tup [u])).push (PySem.HandSPX.excO C hp.objs.size)).get? b = some o := fun b o e => Heap.get?_push_of_some _ (Heap.get?_push_of_some _ e)
  have hget : ((hp.push (PySem.W.kdv_tup [u])).push (PySem.HandSPX.excO C hp.objs.size)).get? (hp.objs.size + 1) = some (PySem.HandSPX.excO C hp.objs.size) := by heap_get
  have hnone : hp.get? (hp.objs.size + 1) = none := by
    cases e : hp.get? (hp.objs.size + 1) with
    | none => rfl
    | some o => exact absurd (Heap.lt_size e) (Nat.not_lt.mpr (Nat.le_succ _))
  refine wpAny_call (PySem.HandSPX.call_own PySem.F.excBase_ValueError (fun Y => PySem.HandSPX.refsVE_contains Y bm hbm) (IK _ _ hC) (PySem.W.looks_findIn IK iC) (fun self => PySem.W.bind_fn IK self tI) (by show 1 ≤ sizeLine; decide)
    (sx_init (s := ⟨(hp.push (PySem.W.kdv_tup [u])).push (PySem.HandSPX.excO C hp.objs.size), g, dr, tk, os⟩) (hp := hp) (x := hp.objs.size + 1) (t0 := hp.objs.size) (v := u) T lf hcd code cell IK kk (Nat.le_of_lt (Nat.lt_of_le_of_lt (Nat.le_succ _) (Heap.lt_size hget))) hnone hget (M.glob.keeps kb) (hmb.keeps kb) hbb (hlim.keeps kk) ?_ hline ?_ fun h' tk' dx t1 k' hdx hne ho hn => ?_))
  · have := hr.dp
    show X.A.depth + 1 < recursionLimit
    omega
  · exact binds_K (IK.keeps kk) rfl htd rfl rfl rfl
  · refine ⟨rfl, hq (hp.objs.size + 1) dx _ (I.hok.fresh (Nat.le_succ _)) (I.hok.fresh hdx) hne ?_⟩
    exact made_end (s := ⟨hp, g, dr, tk, os⟩) I r k' (Nat.le_succ _) hdx hne ho hn
theorem pe_mkV {k : Nat} (T : SxT X.prog X.K C) (hr : Room k X.A) (hg : Gl X x) (hm : X.mg x = some (.ref C)) (he : PE X e ta)
    (hdb : (x == ("__debug__" : PySem.Str)) = false := by decide) (hs : starEach [e] X.env = (false, eval e X.env) :: starEach [] X.env := by rfl) : PE X (.Call (.Name x p) [e] [] pos) (tMkV C ta) := by
  refine ⟨fun pins s σ H Q I h => ?_⟩
  refine wpAny_Call_Name_kw (ld_glob I hg hm ?_ hdb)
  refine PySem.W.callWith_K (h₀ := X.base) I.ok.mod.kin T.kC ?_ hs (by rfl)
  rw [hs]
  show wpAny _ _ (spliced ((false, eval e X.env) :: backTo pos (starEach [] X.env))) _ _ s
  refine Calls.spliced_cons (thn (he.run pins s σ H _ I h) fun u s1 ⟨v, H1, I1, r1, q1⟩ => ?_)
  refine Calls.spliced_nil ⟨I1.kIn, ?_⟩
  show wpAny _ _ (call (.ref C) [u]) _ _ _
  exact call_made T hr I1 r1 fun a d s' na nd ne J => ⟨.ref a, _, J, rfl, q1 a d na nd ne⟩
/-! ### e.value -/
def tVal (K : PySem.W.Frag) (te : TE) : TE := fun σ H Q => te σ H fun x H1 => ∃ a C d v, x = .ref a ∧ H1 a = some (exo a C (some d)) ∧ H1 d = some (exd d [("value", v)]) ∧ XfC K C ∧ PySem.W.findIn K (.ref C) "value" = some none ∧ Q v H1
theorem pe_val {te : TE} (he : PE X e te) (hb : attributeBase e "value" X.env (eval e X.env) = eval e X.env := by rfl) : PE X (.Attribute e "value" pos) (tVal X.K te) := by
  refine ⟨fun pins s σ H Q I h => ?_⟩
  refine attr_of hb (thn (he.run pins s σ H _ I h) fun u s1 hh => ?_)
  obtain ⟨y, H1, I1, rx, a, C, d, v, rfl, ha, hd, T, hno, q⟩ := hh
  obtain rfl : u = Value.ref a := rx
  obtain ⟨o, ho, ho1, ho2, vs, ho3⟩ := exo_get I1.hok ha
  obtain ⟨mA, hns, hr⟩ := exd_get I1.hok hd
  obtain ⟨od, hod, hl⟩ := lookIn_ns hns
  have l : [(("value" : PySem.Str), v)].lookup ("value" : PySem.Str) = some v := by simp [List.lookup]
  obtain ⟨w, hw, rw'⟩ := RelO.some_of (v := v) (o := mA "value") (by rw [← l]; exact hr "value")
  have J := instAt_some ho ho1 ho2 ho3 hod
  exact HandSPX.exc_get I1.kIn J T.ga T.gg T.exC (PySem.W.findObj_own T.hdC hno rfl (by rw [hl, hw])) (handed_of rw') ⟨v, H1, I1.tok _, rw', q⟩
/-! ### isinstance(e, c), e a made error -/
def rIsX (K : PySem.W.Frag) : List V → Hp → VK → Prop := fun xs H Q => ∃ (a D : Addr) (d : Option Addr) (c : V) (cv : Value) (b : Bool), xs = [.ref a, c] ∧ H a = some (exo a D d) ∧ (∀ dd, d = some dd → ∃ fs, H dd = some (exd dd fs)) ∧ ClsV c cv ∧ ExcC K D ∧ PySem.W.kitOne K (.ref D) cv = some b ∧ Q (.bl b) H
theorem call_isX : CallR X (.builtin "isinstance") (rIsX X.K) := by
  intro pins s σ H xs us Q I r h
  obtain ⟨a, D, d, c, cv, b, rfl, ha, hd, hcv, T, e, q⟩ := h
  cases r with
  | cons rx rr =>
    cases rr with
    | cons rt rr =>
      cases rr
      cases rx
      have ec := hcv.eq rt
      subst ec
      obtain ⟨o, ho, ho1, ho2, vs, ho3⟩ := exo_get I.hok ha
      have hcl : (PySem.W.clsIn X.K D).isSome = true := by
        have := T.hd
        obtain ⟨cd, hc, _⟩ := PySem.W.any_some this
        rw [hc]; rfl
      cases d with
      | none =>
        have J := instAt_none ho ho1 ho2 ho3
        exact PySem.W.kia_one (PySem.W.kitx_exc hcl T.hg T.hk T.hs T.ha T.hn T.ht T.hm) I.kIn J e (fun z => nomatch z) fun tk => ⟨.bl b, H, I.kept (t' := tk) fun _ _ z => z, rfl, q⟩
      | some dd =>
        obtain ⟨fs, hdd⟩ := hd dd rfl
        obtain ⟨mA, hns, hr⟩ := exd_get I.hok hdd
        obtain ⟨od, hod, hl⟩ := lookIn_ns hns
        have J := instAt_some ho ho1 ho2 ho3 hod
        exact PySem.W.kia_one (PySem.W.kitx_exc hcl T.hg T.hk T.hs T.ha T.hn T.ht T.hm) I.kIn J e (fun z => nomatch z) fun tk => ⟨.bl b, H, I.kept (t' := tk) fun _ _ z => z, rfl, q⟩
end
end MPX
namespace MPX
open PySem PySem.W PySem.Calls PyProof.Rows PySem.Spec PySem.HandSPX L2
section
variable {M : Model} {A : Around} {E : Value → Shared → Prop} {h : Heap} {g : Array GenState} {d : Drawn} {t : Nat} {os : OsState}
variable {nm q : PySem.Str} {C N : Addr} {bs bm bmB : List Value} {hdct : Bool} {sn : List PySem.Str} {sub : List Value} {ab : Bool} {col : Option Bool} {dd : Option Addr} {k0 k1 k2 k3 k5 : Option Value} {B newId initId : String}
theorem check_new_kw (F : ExcBaseFacts B newId initId bmB) (hT : ∀ X : String, bm.contains (.type X) = bmB.contains (.type X)) {v : Value} {Q : Unit → Shared → Prop}
    (hC : h.get? C = some (excClassObj nm q C N bs bm hdct sn sub ab col dd k0 k1 k2 k3 k5 newId)) (hq : Q () ⟨h, g, d, t, os⟩) : wpAny M A (checkBuiltinCall newId ⟨[.ref C], [("value", v)]⟩) Q E ⟨h, g, d, t, os⟩ := by
  have hcont : (Value.ref C :: bm).contains (.type B) = true := by rw [List.contains_cons, hT, F.hasB, Bool.or_true]
  have hstar := F.noStar
  simp only [checkBuiltinCall, F.newKind, F.newSplit, F.newRow]
  repeat (first | refine wpAny_loadPart_at hC ?_ | (refine wpAny_isSubtype_exc hC ?_; rw [hcont]) | refine wpAny_staticBase_exc hC ?_ | refine wpAny_madeBy_exc hC ?_ | simp only [bne_self_eq_false, Bool.false_eq_true, if_false] | wp_step)
  exact hq
theorem check_type_kw {v : Value} {Q : Unit → Shared → Prop} (hC : h.get? C = some (excClassObj nm q C N bs bm hdct sn sub ab col dd k0 k1 k2 k3 k5 newId))
    (hq : Q () ⟨h, g, d, t, os⟩) : wpAny M A (checkBuiltinCall "type.__call__" ⟨[.ref C], [("value", v)]⟩) Q E ⟨h, g, d, t, os⟩ := by
  have f3 := tc_sub
  have hT : (⟨h, g, d, t, os⟩ : Shared).TypeIs (.ref C) "type" := ⟨_, hC, rfl⟩
  simp only [checkBuiltinCall, tc_kind, tc_split]
  repeat (any_goals (first | assumption | with_reducible refine wpAny_loadPart_at hC ?_ | with_reducible refine wpAny_onRaise ?_ | with_reducible refine wpAny_map ?_ | wp_step))
end
section
variable {prog : Program} {w : World} {A : Around} {E : Value → Shared → Prop} {R : Result → Shared → Prop} {h : Heap} {g : Array GenState} {d : Drawn} {t : Nat} {os : OsState}
variable {nm q : PySem.Str} {C N : Addr} {bs bm bmB : List Value} {hdct : Bool} {sn : List PySem.Str} {sub : List Value} {ab : Bool} {col : Option Bool} {dd : Option Addr} {k0 k1 k2 k3 k5 : Option Value} {B newId initId : String}
theorem new_kw (F : ExcBaseFacts B newId initId bmB) (hT : ∀ X : String, bm.contains (.type X) = bmB.contains (.type X)) {v : Value}
    (hC : h.get? C = some (excClassObj nm q C N bs bm hdct sn sub ab col dd k0 k1 k2 k3 k5 newId))
    (hq : R (.ok (.ret (.ref (h.objs.size + 1)))) ⟨(h.push { cls := .type "tuple", data := .seq #[] }).push
      { cls := .ref C, data := .fields #[.ref h.objs.size, .none, .none, .none, .bool false, .none] }, g, d, t, os⟩) :
    codeAny (model prog w) A (.builtin newId ⟨[.ref C], [("value", v)]⟩) R ⟨h, g, d, t, os⟩ := by
  have hends := F.ends
  have hcB : (Value.ref C :: bm).contains (.type B) = true := by rw [List.contains_cons, hT, F.hasB, Bool.or_true]
  have hcA : (Value.ref C :: bm).contains (.type "AttributeError") = false := by rw [List.contains_cons, hT, F.noAttr]; rfl
  have hcN : (Value.ref C :: bm).contains (.type "NameError") = false := by rw [List.contains_cons, hT, F.noName]; rfl
  refine codeAny_builtinAt F.entry ?_
  unfold Builtin.«BaseException.__new__»
  refine PySem.wpAt_bind ?_
  show PySem.wpAt _ _ _ (stack >>= _) _ _ _
  refine PySem.wpAt_bind (PySem.wpAt_stack fun p below => PySem.wpAt_of_wpAny ?_)
  wp_walk
  refine PySem.wpAt_of_wpAny ?_
  rw [F.owner]
  repeat (first | with_reducible refine wpAny_madeHere_exc F.canon hC ?_ | with_reducible refine wpAny_loadPart_at hC ?_ | (with_reducible refine wpAny_isSubtype_exc hC ?_; first | rw [hcB] | rw [hcA] | rw [hcN]) | wp_step)
  show R _ _
  rw [Heap.size_push]
  exact hq
theorem type_call_kw (F : ExcBaseFacts B newId initId bmB) (hT : ∀ X : String, bm.contains (.type X) = bmB.contains (.type X)) {v : Value} {fI : Addr} {Q : Fin → Shared → Prop}
    (hC : h.get? C = some (excClassObj nm q C N bs bm hdct sn sub ab col dd k0 k1 k2 k3 k5 newId))
    (hi : W.Looks (model prog w) h (typeLookup (.ref C) "__init__") (some (.ref fI))) (hb : ∀ self, W.Looks (model prog w) h (bindSpecial (.ref fI) self) (.ref fI, [self]))
    (hq : codeAny (model prog w) A (.call (.ref fI) ⟨[.ref (h.objs.size + 1)], [("value", v)]⟩)
      (fun r s' => match r with | .ok (.ret v) => v = .none ∧ Q (.done (.ret (.ref (h.objs.size + 1)))) s' | .ok _ => False | .error e => E e s')
      ⟨(h.push (W.kdv_tup [])).push (excO C h.objs.size), g, d, t, os⟩) :
    wpAny (model prog w) A (Builtin.«type.__call__» ⟨[.ref C], [("value", v)]⟩) Q E ⟨h, g, d, t, os⟩ := by
  repeat (first | with_reducible refine wpAny_loadPart_at hC ?_ | with_reducible refine wpAny_madeBy_exc hC ?_ | wp_step)
  refine codeAny_call_builtin_code (Code.quiet_builtin _ F.quiet) (check_new_kw F hT hC ?_)
  refine new_kw F hT hC ?_
  show wpAny _ _ _ _ _ _
  have k : ∀ b o, h.get? b = some o → ((h.push (W.kdv_tup [])).push (excO C h.objs.size)).get? b = some o := fun b o e => Heap.get?_push_of_some _ (Heap.get?_push_of_some _ e)
  have hC₁ := k _ _ hC
  have hget : ((h.push (W.kdv_tup [])).push (excO C h.objs.size)).get? (h.objs.size + 1) = some (excO C h.objs.size) := by heap_get
  have hcC : (Value.ref C :: bm).contains (.ref C) = true := by simp
  have i1 := hi.keeps k
  have b1 := (hb (.ref (h.objs.size + 1))).keeps k
  unfold isInstance
  repeat (first | with_reducible refine wpAny_loadPart_at hget ?_ | (with_reducible refine wpAny_isSubtype_exc hC₁ ?_; rw [hcC]) | wp_step)
  show wpAny _ _ (typeLookup (.ref C) _) _ _ _
  refine i1.at ?_
  refine wpAny_holding (wpAny_bind (b1.at ?_))
  refine wpAny_bind (wpAny_call (codeAny_mono hq fun r s' z => ?_))
  rcases r with e | (v | _ | _ | _) <;> first | exact z | exact z.elim | skip
  obtain ⟨rfl, z⟩ := z
  first
    | exact wpAny_pure (wpAny_pure z)
    | (wp_walk; exact z)
theorem call_kw (F : ExcBaseFacts B newId initId bmB) (hT : ∀ X : String, bm.contains (.type X) = bmB.contains (.type X)) {v : Value} {fI : Addr}
    (hC : h.get? C = some (excClassObj nm q C N bs bm hdct sn sub ab col dd k0 k1 k2 k3 k5 newId))
    (hi : W.Looks (model prog w) h (typeLookup (.ref C) "__init__") (some (.ref fI))) (hb : ∀ self, W.Looks (model prog w) h (bindSpecial (.ref fI) self) (.ref fI, [self]))
    (hq : codeAny (model prog w) (A.under (.builtin "type.__call__" ⟨[.ref C], [("value", v)]⟩)) (.call (.ref fI) ⟨[.ref (h.objs.size + 1)], [("value", v)]⟩) (W.InitBack (h.objs.size + 1) R)
      ⟨(h.push (W.kdv_tup [])).push (excO C h.objs.size), g, d, t, os⟩) :
    codeAny (model prog w) A (.call (.ref C) ⟨[], [("value", v)]⟩) R ⟨h, g, d, t, os⟩ := by
  have f1 := tc_lookup
  have f2 := tc_bind (.ref C)
  have hTy : (⟨h, g, d, t, os⟩ : Shared).TypeIs (.ref C) "type" := ⟨_, hC, rfl⟩
  refine codeAny_of_tree ?_
  show wpAny _ _ (callAny (.ref C) _) _ _ _
  repeat (any_goals (first | assumption | with_reducible refine wpAny_loadPart_at hC ?_ | wp_step))
  refine ⟨rfl, ?_⟩
  refine codeAny_call_builtin_at (Code.quiet_builtin _ (by decide +kernel)) entry_typeCall (check_type_kw hC (type_call_kw F hT hC hi hb ?_))
  refine codeAny_mono hq fun r s' z => ?_
  rcases r with e | (v | _ | _ | _) <;> exact z
end
end MPX
namespace MPX
open PySem PySem.W PySem.Calls PyProof.Rows PySem.Spec PySem.HandSPX L2
/-- C(), C(value=e) -/
def tMk0 (C : Addr) : TE := fun _ H Q => ∀ a d, H a = none → H d = none → d ≠ a → Q (.ref a) (upd (upd H d (exd d [("value", .non)])) a (exo a C (some d)))
/-- C(), C an own error without an __init__ -/
def tMkN (C : Addr) : TE := fun _ H Q => ∀ a, H a = none → Q (.ref a) (upd H a (exo a C none))
section
variable {X : Cx} {C : Addr} {x : PySem.Str} {e : PySem.Expr} {ta : TE} {p pos : Pos}
theorem call_made0 {pins : List (Addr × Obj)} {σ : L2.St} {H : Hp} {s : Shared} {E : Value → Shared → Prop} {Q : Value → Shared → Prop} {k : Nat} (T : SxT X.prog X.K C) (hr : Room k X.A) (I : Inv X pins σ H s)
    (hq : ∀ a d s', H a = none → H d = none → d ≠ a → Inv X pins σ (upd (upd H d (exd d [("value", .non)])) a (exo a C (some d))) s' → Q (.ref a) s') : wpAny (model X.prog X.w) X.A (call (.ref C) []) Q E s := by
  obtain ⟨nm, q, N, bs, bm, sn, sub, ab, col, dd, k0, k1, k2, k3, k5, hC, hbm⟩ := T.cls
  obtain ⟨fI, cc, cda, qq, oc, od, td, doc, pm, an, ct, osl, pp, pp', iC, tI, lf, hcd, hline, code, cell, htd⟩ := T.fn
  have hlim := I.nolimit
  have IK := I.kIn
  have M := I.ok.mod
  obtain ⟨mb, hmb, hbb⟩ := M.blt
  obtain ⟨hp, g, dr, tk, os⟩ := s
  have kb : ∀ b o, X.base.get? b = some o → hp.get? b = some o := I.bk
  obtain ⟨to, tod, tsl, tn, htd⟩ := htd
  have kk : ∀ b o, hp.get? b = some o → ((hp.push (PySem.W.kdv_tup [])).push (PySem.HandSPX.excO C hp.objs.size)).get? b = some o := fun b o e => Heap.get?_push_of_some _ (Heap.get?_push_of_some _ e)
  have hget : ((hp.push (PySem.W.kdv_tup [])).push (PySem.HandSPX.excO C hp.objs.size)).get? (hp.objs.size + 1) = some (PySem.HandSPX.excO C hp.objs.size) := by heap_get
  have hnone : hp.get? (hp.objs.size + 1) = none := by
    cases e : hp.get? (hp.objs.size + 1) with
    | none => rfl
    | some o => exact absurd (Heap.lt_size e) (Nat.not_lt.mpr (Nat.le_succ _))
  refine wpAny_call (PySem.HandSPX.call_own PySem.F.excBase_ValueError (fun Y => PySem.HandSPX.refsVE_contains Y bm hbm) (IK _ _ hC) (PySem.W.looks_findIn IK iC) (fun self => PySem.W.bind_fn IK self tI) (by show 0 ≤ sizeLine; decide)
    (sx_init (s := ⟨(hp.push (PySem.W.kdv_tup [])).push (PySem.HandSPX.excO C hp.objs.size), g, dr, tk, os⟩) (hp := hp) (x := hp.objs.size + 1) (t0 := hp.objs.size) (v := .none) T lf hcd code cell IK kk (Nat.le_of_lt (Nat.lt_of_le_of_lt (Nat.le_succ _) (Heap.lt_size hget))) hnone hget (M.glob.keeps kb) (hmb.keeps kb) hbb (hlim.keeps kk) ?_ hline ?_ fun h' tk' dx t1 k' hdx hne ho hn => ?_))
  · have := hr.dp
    show X.A.depth + 1 < recursionLimit
    omega
  · exact binds_K (IK.keeps kk) rfl htd rfl rfl rfl
  · refine ⟨rfl, hq (hp.objs.size + 1) dx _ (I.hok.fresh (Nat.le_succ _)) (I.hok.fresh hdx) hne ?_⟩
    exact made_end (s := ⟨hp, g, dr, tk, os⟩) (v := .non) I rfl k' (Nat.le_succ _) hdx hne ho hn
theorem call_madeK {pins : List (Addr × Obj)} {σ : L2.St} {H : Hp} {s : Shared} {E : Value → Shared → Prop} {Q : Value → Shared → Prop} {u : Value} {v : V} {k : Nat} (T : SxT X.prog X.K C) (hr : Room k X.A) (I : Inv X pins σ H s) (r : RelV v u)
    (hq : ∀ a d s', H a = none → H d = none → d ≠ a → Inv X pins σ (upd (upd H d (exd d [("value", v)])) a (exo a C (some d))) s' → Q (.ref a) s') : wpAny (model X.prog X.w) X.A (call (.ref C) [] [("value", u)]) Q E s := by
  obtain ⟨nm, q, N, bs, bm, sn, sub, ab, col, dd, k0, k1, k2, k3, k5, hC, hbm⟩ := T.cls
  obtain ⟨fI, cc, cda, qq, oc, od, td, doc, pm, an, ct, osl, pp, pp', iC, tI, lf, hcd, hline, code, cell, htd⟩ := T.fn
  have hlim := I.nolimit
  have IK := I.kIn
  have M := I.ok.mod
  obtain ⟨mb, hmb, hbb⟩ := M.blt
  obtain ⟨hp, g, dr, tk, os⟩ := s
  have kb : ∀ b o, X.base.get? b = some o → hp.get? b = some o := I.bk
  obtain ⟨to, tod, tsl, tn, htd⟩ := htd
  have kk : ∀ b o, hp.get? b = some o → ((hp.push (PySem.W.kdv_tup [])).push (PySem.HandSPX.excO C hp.objs.size)).get? b = some o := fun b o e => Heap.get?_push_of_some _ (Heap.get?_push_of_some _ e)
  have hget : ((hp.push (PySem.W.kdv_tup [])).push (PySem.HandSPX.excO C hp.objs.size)).get? (hp.objs.size + 1) = some (PySem.HandSPX.excO C hp.objs.size) := by heap_get
  have hnone : hp.get? (hp.objs.size + 1) = none := by
    cases e : hp.get? (hp.objs.size + 1) with
    | none => rfl
    | some o => exact absurd (Heap.lt_size e) (Nat.not_lt.mpr (Nat.le_succ _))
  refine wpAny_call (call_kw PySem.F.excBase_ValueError (fun Y => PySem.HandSPX.refsVE_contains Y bm hbm) (IK _ _ hC) (PySem.W.looks_findIn IK iC) (fun self => PySem.W.bind_fn IK self tI)
    (sx_init (s := ⟨(hp.push (PySem.W.kdv_tup [])).push (PySem.HandSPX.excO C hp.objs.size), g, dr, tk, os⟩) (hp := hp) (x := hp.objs.size + 1) (t0 := hp.objs.size) (v := u) T lf hcd code cell IK kk (Nat.le_of_lt (Nat.lt_of_le_of_lt (Nat.le_succ _) (Heap.lt_size hget))) hnone hget (M.glob.keeps kb) (hmb.keeps kb) hbb (hlim.keeps kk) ?_ hline ?_ fun h' tk' dx t1 k' hdx hne ho hn => ?_))
  · have := hr.dp
    show X.A.depth + 1 < recursionLimit
    omega
  · exact binds_K (IK.keeps kk) rfl htd rfl rfl rfl
  · refine ⟨rfl, hq (hp.objs.size + 1) dx _ (I.hok.fresh (Nat.le_succ _)) (I.hok.fresh hdx) hne ?_⟩
    exact made_end (s := ⟨hp, g, dr, tk, os⟩) I r k' (Nat.le_succ _) hdx hne ho hn
theorem pe_mk0 {k : Nat} (T : SxT X.prog X.K C) (hr : Room k X.A) (hg : Gl X x) (hm : X.mg x = some (.ref C)) (hdb : (x == ("__debug__" : PySem.Str)) = false := by decide) : PE X (.Call (.Name x p) [] [] pos) (tMk0 C) := by
  refine ⟨fun pins s σ H Q I h => ?_⟩
  refine wpAny_Call_Name_kw (ld_glob I hg hm ?_ hdb)
  refine PySem.W.callWith_K0 I.kIn T.kC ?_
  show wpAny _ _ (call (.ref C) []) _ _ _
  exact call_made0 T hr I fun a d s' na nd ne J => ⟨.ref a, _, J, rfl, h a d na nd ne⟩
def oneV (P : V → Hp → Prop) : List V → Hp → Prop
  | [v], H => P v H
  | _, _ => False
theorem oneV_ok {P : V → Hp → Prop} {vs : List V} {H : Hp} (h : oneV P vs H) : ∃ v, vs = [v] ∧ P v H := by
  rcases vs with _ | ⟨v, _ | ⟨w, r⟩⟩
  · exact h.elim
  · exact ⟨v, rfl, h⟩
  · exact h.elim
theorem pe_mkK {k : Nat} {kp : Pos} (T : SxT X.prog X.K C) (hr : Room k X.A) (hg : Gl X x) (hm : X.mg x = some (.ref C)) (he : PE X e ta) (hdb : (x == ("__debug__" : PySem.Str)) = false := by decide)
    (hks : (backToKw pos (keywordEach [⟨some ("value" : PySem.Str), e, kp⟩] X.env)).filterMap (·.1) = [("value" : PySem.Str)] := by rfl) : PE X (.Call (.Name x p) [] [⟨some ("value" : PySem.Str), e, kp⟩] pos) (tMkV C ta) := by
  refine ⟨fun pins s σ H Q I h => ?_⟩
  refine wpAny_Call_Name_kw (ld_glob I hg hm ?_ hdb)
  refine PySem.W.callWith_KW0 (h₀ := X.base) I.ok.mod.kin T.kC (by rfl) ?_ (by rfl)
  have hk : PK X [⟨some ("value" : PySem.Str), e, kp⟩] (tCons ta tNil) := pk_cons he pk_nil
  rw [hks]
  refine thn (hk.run pos pins s σ H (oneV fun v H1 => ∀ a d, H1 a = none → H1 d = none → d ≠ a → Q (.ref a) (upd (upd H1 d (exd d [("value", v)])) a (exo a C (some d)))) I h) fun us s1 hh => ?_
  obtain ⟨vs, H1, I1, r, q1⟩ := hh
  obtain ⟨v, rfl, q1⟩ := oneV_ok q1
  obtain ⟨u, rfl, r1⟩ := r.one
  exact ⟨I1.kIn, call_madeK T hr I1 r1 fun a d s' na nd ne J => ⟨.ref a, _, J, rfl, q1 a d na nd ne⟩⟩
theorem pe_mkN {bmB : List Value} {B newId initId : String} (F : ExcBaseFacts B newId initId bmB) (q : PySem.W.excIn X.K C bmB newId = true) (gC : X.mg x = some (.ref C)) (kC : PySem.W.keepIn X.K (.ref C) = true) (hg : Gl X x)
    (hdb : (x == ("__debug__" : PySem.Str)) = false := by decide) : PE X (.Call (.Name x p) [] [] pos) (tMkN C) := by
  refine ⟨fun pins s σ H Q I h => ?_⟩
  refine wpAny_Call_Name_kw (ld_glob I hg gC ?_ hdb)
  refine PySem.W.callWith_K0 I.kIn kC ?_
  show wpAny _ _ (call (.ref C) []) _ _ _
  obtain ⟨bm, N, nm, qn, bs, hdct, sn, sub, ab, col, dd, k0, k1, k2, k3, k5, mN, hC, hN, hni, T⟩ := exc_obj I.kIn q
  refine wpAny_call_exc_subT F T hC hN hni (fun h' a hm => ?_) (by show 0 ≤ sizeLine; decide)
  have hn : H a = none := I.hok.gone hm.new
  obtain ⟨t, ht, _, _⟩ := hm.there
  exact ⟨.ref a, upd H a (exo a C none), I.laidN hm.keeps hm.new hn (exo_ok ht), rfl, h a hn⟩
end
end MPX
namespace MPX
open PySem PySem.W PySem.Calls PyProof.Rows PySem.Spec PySem.HandSPX L2
section
variable {M : Model} {prog : Program} {w : World} {A : Around} {E : Value → Shared → Prop} {s : Shared} {K : PySem.W.Frag} {x y C : Addr} {ox oy : Obj} {od od' : Option Obj}
theorem call_objEqX {Q : Value → Shared → Prop} (X : K.In s.heap) (I : PySem.W.InstAt s.heap x ox C od) (J : PySem.W.InstAt s.heap y oy C od') (hxy : x ≠ y) (hm : PySem.W.mroIn K C (.type "object") = some true) (hq : Q .notImplemented s) :
    wpAny (model prog w) A (call (.builtin "object.__eq__") [.ref x, .ref y]) Q E s :=
  wpAny_call (codeAny_call_builtin F.cmp_object.eq.plain F.cmpEntry_eq (PySem.W.check_slot F.cmpKind_eq F.cmpSplit_eq (I.type.andThen (PySem.W.looks_mroIn X hm)) (F.cmpArgs_eq _ _)
    (objEq_entry_other hxy I.at_ J.at_ (by rw [I.cls]; exact fun z => by cases z) hq)))
theorem rc_exc (hu : A.units < cLine) (X : K.In s.heap) (I : PySem.W.InstAt s.heap x ox C od) (J : PySem.W.InstAt s.heap y oy C od') (hxy : x ≠ y) (hm : PySem.W.mroIn K C (.type "object") = some true) (hs : PySem.W.findIn K (.ref C) "__eq__" = some (some (.builtin "object.__eq__")))
    {Q : Value → Shared → Prop} (h : Q (.bool false) s) : wpAny (model prog w) A (richCompare .Eq (.ref x) (.ref y)) Q E s := by
  have one : wpAny (model prog w) A (tryCompare (.ref x) "__eq__" (.ref y)) (fun r s' => r = none ∧ s' = s) E s := by
    unfold tryCompare
    exact wpAny_bind (HN.ifBound_objEq X I hs (call_objEqX X I J hxy hm (wpAny_pure ⟨rfl, rfl⟩)))
  have two : wpAny (model prog w) A (tryCompare (.ref y) "__eq__" (.ref x)) (fun r s' => r = none ∧ s' = s) E s := by
    unfold tryCompare
    exact wpAny_bind (HN.ifBound_objEq X J hs (call_objEqX X J I (Ne.symm hxy) hm (wpAny_pure ⟨rfl, rfl⟩)))
  simp only [richCompare, cmpInfo_Eq, oneThing_ref]
  refine wpAny_holding (wpAny_bind (wpAny_cRoomFor hu ?_))
  refine wpAny_bind (I.type.here ?_)
  refine wpAny_bind (J.type.here ?_)
  split
  · rename_i q
    exact absurd q (by simp)
  · simp only [Bool.false_eq_true, if_false, Bool.not_false, if_true, pure_bind]
    refine wpAny_bind (m := tryCompare (.ref x) _ (.ref y)) (wpAny_mono one (fun r s1 z => ?_) fun _ _ e => e)
    obtain ⟨z1, z2⟩ := z
    subst z1
    subst z2
    refine wpAny_bind (m := tryCompare (.ref y) _ (.ref x)) (wpAny_mono two (fun r s2 z => ?_) fun _ _ e => e)
    obtain ⟨z1, z2⟩ := z
    subst z1
    subst z2
    exact wpAny_bind (wpAny_rule (wpAny_bind (wpAny_isSame_ref_other hxy I.at_ J.at_ (by rw [I.cls]; exact fun z => by cases z) (wpAny_pure h))))
end
/-- == of two errors, each made anew -/
def rEqX (K : PySem.W.Frag) : R2 := fun x y H Q => ∃ (a b C : Addr) (d d' : Option Addr), x = .ref a ∧ y = .ref b ∧ a ≠ b ∧ H a = some (exo a C d) ∧ (∀ e, d = some e → ∃ fs, H e = some (exd e fs)) ∧ H b = some (exo b C d') ∧ (∀ e, d' = some e → ∃ fs, H e = some (exd e fs)) ∧
  PySem.W.mroIn K C (.type "object") = some true ∧ PySem.W.findIn K (.ref C) "__eq__" = some (some (.builtin "object.__eq__")) ∧ Q (.bl false) H
theorem inst_exo {X : Cx} {pins : List (Addr × Obj)} {σ : L2.St} {H : Hp} {s : Shared} {a C : Addr} {d : Option Addr} (I : Inv X pins σ H s) (ha : H a = some (exo a C d)) (hd : ∀ e, d = some e → ∃ fs, H e = some (exd e fs)) : ∃ ox od, PySem.W.InstAt s.heap a ox C od := by
  obtain ⟨o, ho, ho1, ho2, vs, ho3⟩ := exo_get I.hok ha
  cases d with
  | none => exact ⟨_, none, instAt_none ho ho1 ho2 ho3⟩
  | some dd =>
    obtain ⟨fs, hdd⟩ := hd dd rfl
    obtain ⟨mA, hns, hr⟩ := exd_get I.hok hdd
    obtain ⟨od, hod, hl⟩ := lookIn_ns hns
    exact ⟨_, some od, instAt_some ho ho1 ho2 ho3 hod⟩
theorem op_eqX {X : Cx} (hu : X.A.units + 1 < cLine) : OpR X (compareOp .Eq) (rEqX X.K) := by
  intro pins s σ H x y v u Q I rx ry h
  obtain ⟨a, b, C, d, d', rfl, rfl, ne, ha, hd, hb, hd', hm, he, q⟩ := h
  cases rx
  cases ry
  obtain ⟨ox, od, I1⟩ := inst_exo I ha hd
  obtain ⟨oy, od', I2⟩ := inst_exo I hb hd'
  exact PySem.W.cmp_ofEq (rc_exc (by omega) I.kIn I1 I2 ne hm he ⟨.bl false, H, I, rfl, q⟩)
end MPX
namespace MPX
open PySem PySem.W PySem.Calls PyProof.Rows PySem.Spec PySem.HandSPX L2
/-- C(e), to be raised -/
def tPmk (C : Addr) (ta : TE) : L2.St → Hp → XK → Prop := fun σ H Q => ta σ H fun v H1 => ∀ d, H1 d = none → Q (.ref C) (some d) (upd H1 d (.xd [("value", v)]))
section
variable {X : Cx} {C : Addr} {x : PySem.Str} {e : PySem.Expr} {ta : TE} {p pos : Pos}
theorem raised_end {pins : List (Addr × Obj)} {σ : L2.St} {H : Hp} {s : Shared} {h' : Heap} {tk : Nat} {a d t1 : Addr} {v : V} {u : Value} {Q : XK} (T : SxT X.prog X.K C) (I : Inv X pins σ H s) (r : RelV v u) (k : ∀ b o, s.heap.get? b = some o → h'.get? b = some o)
    (ha : s.heap.objs.size ≤ a) (hd : s.heap.objs.size ≤ d) (hne : d ≠ a) (ho : h'.get? a = some ({ cls := .ref C, dict := some d, data := .fields #[.ref t1, .none, .none, .none, .bool false, .none] } : Obj)) (hn : h'.Ns1 d (fun y => if y = "value" then some u else none))
    (q : Q (.ref C) (some d) (upd H d (.xd [("value", v)]))) : MkP X pins σ Q (.ref a) { s with heap := h', toks := tk } := by
  obtain ⟨G, g1, g2⟩ := restrict h' fun b => decide (b ≠ a)
  have gk : ∀ b, b ≠ a → G.get? b = h'.get? b := fun b hb => g1 b (decide_eq_true hb)
  have ge : G.get? a = none := g2 a (by simp)
  have kG : ∀ b o, s.heap.get? b = some o → G.get? b = some o := fun b o z => (gk b (Nat.ne_of_lt (Nat.lt_of_lt_of_le (Heap.lt_size z) ha))).trans (k b o z)
  have ob : ObjOk X.prog X.w (upd H d (.xd [(("value" : PySem.Str), v)])) G d (.xd [(("value" : PySem.Str), v)]) := ⟨_, hn.at (fun o z => (gk d hne).trans z), fun f => relO_value r f⟩
  have J : Inv X pins σ (upd H d (.xd [(("value" : PySem.Str), v)])) { s with heap := G, toks := tk } := I.laid (t' := tk) kG hd ob
  refine ⟨a, _, _, { s with heap := G, toks := tk }, _, .ref C, some d, rfl, J, fun b o z => ?_, ge, ho, ⟨rfl, rfl⟩, rfl, rfl, ?_, rfl, I.bare, raises_own T.exC T.tyC, q⟩
  · by_cases hb : b = a
    · have z' : G.get? b = some o := z
      rw [hb, ge] at z'; cases z'
    · exact (gk b hb).symm.trans z
  · rw [upd_ne (Ne.symm hne)]
    exact I.hok.fresh ha
theorem call_raised {pins : List (Addr × Obj)} {σ : L2.St} {H : Hp} {s : Shared} {E : Value → Shared → Prop} {Q : XK} {u : Value} {v : V} {k : Nat} (T : SxT X.prog X.K C) (hr : Room k X.A) (I : Inv X pins σ H s) (r : RelV v u)
    (hq : ∀ d, H d = none → Q (.ref C) (some d) (upd H d (.xd [("value", v)]))) : wpAny (model X.prog X.w) X.A (call (.ref C) [u]) (MkP X pins σ Q) E s := by
  obtain ⟨nm, q, N, bs, bm, sn, sub, ab, col, dd, k0, k1, k2, k3, k5, hC, hbm⟩ := T.cls
  obtain ⟨fI, cc, cda, qq, oc, od, td, doc, pm, an, ct, osl, pp, pp', iC, tI, lf, hcd, hline, code, cell, htd⟩ := T.fn
  have hlim := I.nolimit
  have IK := I.kIn
  have M := I.ok.mod
  obtain ⟨mb, hmb, hbb⟩ := M.blt
  obtain ⟨hp, g, dr, tk, os⟩ := s
  have kb : ∀ b o, X.base.get? b = some o → hp.get? b = some o := I.bk
  obtain ⟨to, tod, tsl, tn, htd⟩ := htd
  have kk : ∀ b o, hp.get? b = some o → ((hp.push (PySem.W.kdv_tup [u])).push (PySem.HandSPX.excO C hp.objs.size)).get? b = some o := fun b o e => Heap.get?_push_of_some _ (Heap.get?_push_of_some _ e)
  have hget : ((hp.push (PySem.W.kdv_tup [u])).push (PySem.HandSPX.excO C hp.objs.size)).get? (hp.objs.size + 1) = some (PySem.HandSPX.excO C hp.objs.size) := by heap_get
  have hnone : hp.get? (hp.objs.size + 1) = none := by
    cases e : hp.get? (hp.objs.size + 1) with
    | none => rfl
    | some o => exact absurd (Heap.lt_size e) (Nat.not_lt.mpr (Nat.le_succ _))
  refine wpAny_call (PySem.HandSPX.call_own PySem.F.excBase_ValueError (fun Y => PySem.HandSPX.refsVE_contains Y bm hbm) (IK _ _ hC) (PySem.W.looks_findIn IK iC) (fun self => PySem.W.bind_fn IK self tI) (by show 1 ≤ sizeLine; decide)
    (sx_init (s := ⟨(hp.push (PySem.W.kdv_tup [u])).push (PySem.HandSPX.excO C hp.objs.size), g, dr, tk, os⟩) (hp := hp) (x := hp.objs.size + 1) (t0 := hp.objs.size) (v := u) T lf hcd code cell IK kk (Nat.le_of_lt (Nat.lt_of_le_of_lt (Nat.le_succ _) (Heap.lt_size hget))) hnone hget (M.glob.keeps kb) (hmb.keeps kb) hbb (hlim.keeps kk) ?_ hline ?_ fun h' tk' dx t1 k' hdx hne ho hn => ?_))
  · have := hr.dp
    show X.A.depth + 1 < recursionLimit
    omega
  · exact binds_K (IK.keeps kk) rfl htd rfl rfl rfl
  · exact ⟨rfl, raised_end (s := ⟨hp, g, dr, tk, os⟩) T I r k' (Nat.le_succ _) hdx hne ho hn (hq dx (I.hok.fresh hdx))⟩
theorem pmk_X {k : Nat} (T : SxT X.prog X.K C) (hr : Room k X.A) (hg : Gl X x) (hm : X.mg x = some (.ref C)) (he : PE X e ta)
    (hdb : (x == ("__debug__" : PySem.Str)) = false := by decide) (hs : starEach [e] X.env = (false, eval e X.env) :: starEach [] X.env := by rfl) : PMk X (.Call (.Name x p) [e] [] pos) (tPmk C ta) := by
  intro pins s σ H Q I h
  refine wpAny_Call_Name_kw (ld_glob I hg hm ?_ hdb)
  refine PySem.W.callWith_K (h₀ := X.base) I.ok.mod.kin T.kC ?_ hs (by rfl)
  rw [hs]
  show wpAny _ _ (spliced ((false, eval e X.env) :: backTo pos (starEach [] X.env))) _ _ s
  refine Calls.spliced_cons (thn (he.run pins s σ H _ I h) fun u s1 ⟨v, H1, I1, r1, q1⟩ => ?_)
  refine Calls.spliced_nil ⟨I1.kIn, ?_⟩
  show wpAny _ _ (call (.ref C) [u]) _ _ _
  exact call_raised T hr I1 r1 q1
/-- raise C(e) -/
theorem ps_raiseX {k : Nat} {W : WX} {pos2 : Pos} (hc : X.calm = true) (T : SxT X.prog X.K C) (hr : Room k X.A) (tk : Takes X W) (hg : Gl X x) (hm : X.mg x = some (.ref C)) (he : PE X e ta)
    (hdb : (x == ("__debug__" : PySem.Str)) = false := by decide) (hs : starEach [e] X.env = (false, eval e X.env) :: starEach [] X.env := by rfl) :
    PS X (.Raise (some (.Call (.Name x p) [e] [] pos)) none pos2) (fun _ σ H => tPmk C ta σ H fun cls d H' => W cls d σ H') := ps_raise hc tk (pmk_X T hr hg hm he hdb hs)
end
end MPX
namespace MPX
open PySem PySem.Spec PyProof.Rows L2
/-- a def's promise where no repr runs around it -/
structure FnG (P : Program) (w : World) (K : PySem.W.Frag) (mg : PySem.Str → Option Value) (base : Heap) (cx : CXT) (k : Nat) (f : Addr) (fd : FuncData) (ps : List PySem.Str) (sp : Sp) : Prop where
  len : ∀ vs H Q E, sp vs H Q E → vs.length = ps.length
  run : ∀ (A : Around) (out : List Env) (s : Shared) (H : Hp) (args : Args) (us : List Value) (vs : List V) (Q : VK) (E : XK), Room k A → A.guards = some [] → Env0 P w K mg base A out s H → BindsTo s fd args (ps.zip us) → Vals vs us → sp vs H Q E →
    codeAny (model P w) A (.call (.ref f) args) (CR cx out P w H s Q E) s
theorem guards_deeper {A : Around} {env : Env} (h : A.guards = some []) : (A.deeper env).guards = some [] := h
theorem fnG_of {cx : CXT} {P : Program} {w : World} {K : PySem.W.Frag} {mg : PySem.Str → Option Value} {base : Heap} {x qual : PySem.Str} {st : PySem.Stmt} {f : Addr} {fd : FuncData} {N ps : List PySem.Str} {k : Nat} {sp : Sp} (F : L2.Fun K x qual st f fd) (S : FnScope N ps (defScope st))
    (len : ∀ vs H Q E, sp vs H Q E → vs.length = ps.length)
    (hbody : ∀ (cdv : Value) (A : Around) (out : List Env) (s : Shared) (H : Hp) (vs : List V) (Q : VK) (E : XK), Room k (A.deeper (envOfC qual (defScope st) s.heap.objs.size f cdv)) → A.guards = some [] → sp vs H Q E →
      ∃ t, PSs (cxOf cx P w K mg base N qual (defScope st) f cdv A out s H E) (defBody st) t ∧ t { nx := fun _ H' => Q .non H', rt := Q } (start N vs) H) : FnG P w K mg base cx (k + 1) f fd ps sp := by
  obtain ⟨oc, od, kV, doc, pm, an, cdv, ct, osl, rfl, lk, hcd⟩ := F.ex
  refine ⟨len, fun A out s H args us vs Q E room gds env bnd rel pr => ?_⟩
  have old : ∀ b o, base.get? b = some o → s.heap.get? b = some o := fun b o e => (env.bs b o e).1
  have KX := env.mod.kin.keeps old
  have kinds : ∀ y ∈ ps.zip us, (defScope st).names.lookup y.1 = some .local ∨ ((defScope st).names.lookup y.1 = some .cell ∧ ((cellsFrom (s.heap.objs.size + 1) (defScope st).names []).lookup y.1).isSome = true) := by
    rintro ⟨n, v⟩ hy
    exact (S.par n (List.of_mem_zip hy).1).imp id fun q => ⟨q, PySem.W.cellsFrom_some _ _ _ (.inl q)⟩
  refine codeAny_call_function room.depth (KX _ _ lk) rfl S.co S.gen rfl (PySem.W.codeRec_of KX hcd) (bnd _ _ _ _ (wpAny_newFunctionEnv_cells S.kind kinds fun e he s1 ic => ?_))
  subst he
  obtain ⟨t, ht, hq⟩ := hbody cdv A out s H vs Q E (room.deeper _) gds pr
  have I := inv_start (CX := cx) (E := E) S room.hd env (len _ _ _ _ pr) rel ic
  refine ⟨(env.mod.nolimit.keeps old).keeps ic.toInCall.keep, codeAny_func (wpAny_mono (ht.run [] s1 (start N vs) H _ I hq) (fun fl s' hs => ?_) fun e s' hs => hs)⟩
  cases fl with
  | ret u => exact let ⟨v, _, H', J, rv, q⟩ := hs; ⟨v, H', J.os, J.bare, J.base, J.hok, rv, q⟩
  | next => exact let ⟨_, H', J, q⟩ := hs; ⟨.non, H', J.os, J.bare, J.base, J.hok, rfl, q⟩
  | brk => exact let ⟨_, _, _, q⟩ := hs; q.elim
  | cont => exact let ⟨_, _, _, q⟩ := hs; q.elim
section
variable {X : Cx} {cx : CXT} {k : Nat} {f : Addr} {fd : FuncData} {ps : List PySem.Str} {sp : Sp} {E : L2.St → XK} {x : PySem.Str} {p pos : Pos} {e : PySem.Expr} {es : List PySem.Expr} {t : TA}
theorem runG {pins : List (Addr × Obj)} {σ : L2.St} {H : Hp} {s : Shared} {Q : VK} {us : List Value} {vs : List V} (F : FnG X.prog X.w X.K X.mg X.base cx k f fd ps sp) (hr : Room k X.A) (gd : X.A.guards = some []) (hb : Binds X.K fd ps []) (hx : PassesAt cx X σ (E σ))
    (I : Inv X pins σ H s) (r : Vals vs us) (h : sp vs H Q (E σ)) : wpAny (model X.prog X.w) X.A (call (.ref f) us) (EP X pins σ Q) X.xe s := by
  have n : us.length = ps.length := r.length.symm.trans (F.len _ _ _ _ h)
  have b : BindsTo s fd ⟨us, []⟩ (ps.zip us) := by
    have z := hb s us I.kIn (by rw [List.append_nil]; exact n)
    rwa [List.append_nil] at z
  refine wpAny_call (codeAny_mono (F.run X.A X.stack s H ⟨us, []⟩ us vs Q (E σ) hr gd I.env0 b r h) fun res s' hq => ?_)
  rcases res with er | fl
  · exact hx pins H s er s' I hq
  · cases fl with
    | ret u => exact I.after hq
    | _ => exact False.elim hq
theorem pe_callG (F : FnG X.prog X.w X.K X.mg X.base cx k f fd ps sp) (hr : Room k X.A) (gd : X.A.guards = some []) (hg : Gl X x) (hm : X.mg x = some (.ref f)) (hk : PySem.W.keepIn X.K (.ref f) = true) (hb : Binds X.K fd ps []) (hx : ∀ σ, PassesAt cx X σ (E σ))
    (ha : PA X (e :: es) t) (hdb : (x == ("__debug__" : PySem.Str)) = false) (he : starEach (e :: es) X.env = (false, eval e X.env) :: starEach es X.env) (hpl : (backTo pos (starEach es X.env)).any (·.1) = false) :
    PE X (.Call (.Name x p) (e :: es) [] pos) (tCallS sp E t) := ⟨fun pins s σ H Q I h =>
  wpAny_Call_Name_kw (ld_glob I hg hm (PySem.W.callWith_K (h₀ := X.base) I.ok.mod.kin hk (thn (ha.run pos pins s σ H _ I h) fun us s1 ⟨vs, H1, I1, r, q⟩ => ⟨I1.kIn, runG F hr gd hb (hx σ) I1 r q⟩) he hpl) hdb)⟩
theorem pe_callG0 (F : FnG X.prog X.w X.K X.mg X.base cx k f fd ps sp) (hr : Room k X.A) (gd : X.A.guards = some []) (hg : Gl X x) (hm : X.mg x = some (.ref f)) (hk : PySem.W.keepIn X.K (.ref f) = true) (hb : Binds X.K fd ps []) (hx : ∀ σ, PassesAt cx X σ (E σ))
    (hdb : (x == ("__debug__" : PySem.Str)) = false) : PE X (.Call (.Name x p) [] [] pos) (tCallS sp E tNil) := ⟨fun pins s σ H Q I h =>
  wpAny_Call_Name_kw (ld_glob I hg hm (PySem.W.callWith_K0 I.kIn hk (runG F hr gd hb (hx σ) I .nil h)) hdb)⟩
end
end MPX
namespace MPX
open PySem PySem.Spec PyProof.Rows L2
/-- the law's call, from an abstract heap that tracks the script at most -/
theorem callG {P : Program} {w : World} {K : PySem.W.Frag} {mg mb : PySem.Str → Option Value} {cx : CXT} {k : Nat} {fa a : Addr} {fd : FuncData} {x : PySem.Str} {sp : Sp} {s : Shared} {vs : List Value} {H : Hp}
    (KX : K.In s.heap) (hns : s.heap.Ns mainGlobals mg) (hb : s.heap.Ns builtinsNs mb) (hbb : ∀ x : PySem.Str, x ≠ "__name__" → mb x = bootBuiltins x) (hlim : s.heap.NoLimit) (hg : s.gens = #[])
    (ha : s.heap.get? a = some { cls := .type "list", data := .seq vs.toArray }) (hr : Room k callerA) (F : ∀ base : Heap, K.In base → base.Ns mainGlobals mg → FnG P w K mg base cx k fa fd [x] sp) (hbind : BindsTo s fd ⟨[.ref a], []⟩ [(x, .ref a)])
    (hCX : ∀ H e s', cx [] H s (fun _ _ _ => False) e s' → False) (hO : Only H) (hsp : sp [.ref a] H (fun v _ => v = .bl true) fun _ _ _ => False) (hok : HOk P w H s.heap) (hA : ∀ b, H b ≠ none → b = a) (hK : H a ≠ none → K.lookup a = none) :
    codeAny (model P w) callerA (.call (.ref fa) ⟨[.ref a], []⟩) (fun r s' => r = .ok (.ret (.bool true)) ∧ OldK s.heap s'.heap ∧ s'.os = s.os ∧ AllBare s'.gens) s := by
  have no : ∀ {b : Addr}, b ≠ a → H b = none := fun {b} hb => by
    cases q : H b with
    | none => rfl
    | some u => exact absurd (hA b (by rw [q]; exact fun z => nomatch z)) hb
  have keepNs : ∀ {b : Addr} {m : PySem.Str → Option Value}, s.heap.Ns b m → (hidT s.heap H).Ns b m := fun {b m} hn => by
    obtain ⟨o, es, ep, e, d, r⟩ := hn
    refine ⟨o, es, ep, hidT_get e (no fun z => ?_), d, r⟩
    subst z
    rw [ha] at e
    cases e
    cases d
  have inK : K.In (hidT s.heap H) := fun b o e => hidT_get (KX b o e) (by
    by_cases z : b = a
    · cases q : H b with
      | none => rfl
      | some u =>
        subst z
        have := hK (by rw [q]; exact fun z => nomatch z)
        rw [this] at e
        cases e
    · exact no z)
  have lim : (hidT s.heap H).NoLimit := let ⟨mc, h1, h2⟩ := hlim; ⟨mc, keepNs h1, h2⟩
  have env : Env0 P w K mg (hidT s.heap H) callerA [] s H := ⟨rfl, ⟨inK, keepNs hns, ⟨mb, keepNs hb, hbb⟩, lim⟩, fun b o e => of_hidT e, Nat.le_of_eq (hidT_size _ _), trivial, fun b hb => (nomatch hb), hok, .of_eq hg⟩
  refine codeAny_mono ((F _ inK (keepNs hns)).run callerA [] s H _ [.ref a] [.ref a] _ _ hr rfl env hbind (.cons rfl .nil) hsp) fun r s' h => ?_
  rcases r with e | fl
  · exact (hCX H e s' h).elim
  · cases fl with
    | ret u =>
      obtain ⟨v, H', os, bare, un, hok', r', q⟩ := h
      have hv : v = V.bl true := q
      subst hv
      have hu : u = Value.bool true := r'
      subst hu
      refine ⟨rfl, OldK.of_keep fun b o e => ?_, os, bare⟩
      rcases hO b with z | ⟨ob, xs, z⟩
      · exact un.keep b o e z (fun m => nomatch m) (fun m => nomatch m)
      · have e1 := (hok b _ z).1
        have e2 := (hok' b _ (un.frzs b ob _ z)).1
        rw [e] at e1
        cases e1
        exact e2
    | _ => exact False.elim h
theorem walkG {l : PySem.W.OpenLaw} {n k : Nat} {q : Program} {loose : List PySem.Str} {XP : (PySem.Str → Option Value) → Heap → Prop} {YP : World → Heap → Prop} {d : DefRec} {K : Params → PySem.W.Frag} {cx : World → CXT} {sp : World → Sp} {x : PySem.Str}
    (hn : l.most = some n) (hn2 : n ≤ sizeLine) (hdf : d.params.defaults = []) (hr : Room k callerA) (hY : ∀ (w : World) (h : Heap), YP w h → (K w.params).In h)
    (F : ∀ (w : World) (mg : PySem.Str → Option Value) (fa : Addr) (h : Heap), (K w.params).In h → h.Ns mainGlobals mg → mg d.name = some (.ref fa) →
      ∃ fd : FuncData, (∀ (s : Shared) (u : Value), BindsTo s fd ⟨[u], []⟩ [(x, u)]) ∧ ∀ base : Heap, (K w.params).In base → base.Ns mainGlobals mg → FnG l.prog w (K w.params) mg base (cx w) k fa fd [x] (sp w))
    (hsp : ∀ (w : World) (H : Hp) (a : Addr) (ns : List Int), ns.length ≤ n → Only H → SqL (K w.params) H a (ns.map V.int) → sp w [.ref a] H (fun v _ => v = .bl true) fun _ _ _ => False)
    (hCX : ∀ (w : World) (H : Hp) (s : Shared) (e : Value) (s' : Shared), cx w [] H s (fun _ _ _ => False) e s' → False) : PySem.W.WalkO q loose XP YP l.row.toRowW d [] (fun f vs => PySem.call f vs) := by
  refine Att.attach_call hn hdf fun w _ s mg mb fa _ _ _ _ a vs ns G Y _ _ _ hmg hobj hints hlen hg => ?_
  have KX := hY w _ Y
  obtain ⟨fd, hb, hF⟩ := F w mg fa _ KX G.T.g hmg
  have rv := vals_ints hints
  have hl : ns.length ≤ sizeLine := Nat.le_trans hlen hn2
  have go := fun (H : Hp) (hO : Only H) (hS : SqL (K w.params) H a (ns.map V.int)) => callG (H := H) KX G.T.g G.T.b G.T.builtins G.T.nolimit hg hobj hr hF (hb s (.ref a)) (fun H e s' => hCX w H s e s') hO (hsp w H a ns hlen hO hS)
  cases hk : (K w.params).lookup a with
  | some o =>
    have e := KX a o hk
    rw [hobj] at e
    cases e
    exact go (fun _ => none) (fun _ => .inl rfl) (.inr ⟨_, vs.toArray, _, hk, rfl, rfl, rfl, by rw [List.size_toArray, hints.length]; exact hl, rv⟩) (fun b u z => nomatch z) (fun b z => absurd rfl z) fun z => absurd rfl z
  | none =>
    let u : HO := .frz { cls := .type "list", data := .seq vs.toArray } (.lst (ns.map V.int))
    have at_a : (upd (fun _ => none) a u : Hp) a = some u := upd_same
    have off : ∀ {b : Addr}, b ≠ a → (upd (fun _ => none) a u : Hp) b = none := fun h => upd_ne h
    refine go (upd (fun _ => none) a u) (fun b => ?_) (.inl (.inr ⟨_, at_a⟩)) (fun b o z => ?_) (fun b z => ?_) fun _ => hk
    · by_cases h : b = a
      · exact .inr ⟨_, _, by rw [h]; exact at_a⟩
      · exact .inl (off h)
    · by_cases h : b = a
      · subst h
        rw [at_a] at z
        cases z
        exact ⟨hobj, by rw [List.length_map]; exact hl, vs, _, rv, hobj⟩
      · rw [off h] at z
        cases z
    · by_cases h : b = a
      · exact h
      · exact absurd (off h) z
end MPX
namespace MPS
open PySem PySem.Spec PyProof.Rows PySem.W L2
/-! ## set(a list), by a word over what is done so far -/
section
variable {prog : Program} {w : World} {A : Around}
/-- one turn: an item is added -/
def Adds (prog : Program) (w : World) (B : Around) (S : Addr) (J : Nat → Heap → Prop) (i : Nat) (v : Value) : Prop :=
  ∀ (E : Value → Shared → Prop) (z : Shared) (Q : Bool → Shared → Prop), J i z.heap → (∀ b h' tk, z.toks ≤ tk → Heap.SameBut S z.heap h' → J (i + 1) h' → Q b { z with heap := h', toks := tk }) → wpAny (model prog w) B (setAdd S v) Q E z
theorem turns {R : Result → Shared → Prop} {I S : Addr} {fp wr : List Addr} {G : Array GenState → Array GenState → Prop} {n : Nat} {P : Nat → Value → Prop} {St : Nat → Shared → Prop} {J : Nat → Heap → Prop} (W : WalksS prog w A.in1 I fp wr G n P St) (hS : S ∉ fp)
    (Jk : ∀ i h h', (∀ b o, b ∉ fp → h.get? b = some o → h'.get? b = some o) → J i h → J i h') (st : ∀ i v, i < n → P i v → Adds prog w A.in1 S J i v) :
    ∀ (k i : Nat) (s : Shared), i + k = n → St i s → J i s.heap → (∀ s', Moved (S :: wr) G s s' → J n s'.heap → R (.ok (.ret .none)) s') → codeAny (model prog w) A (.builtin "set.update.loop" ⟨[.ref S, .ref I], []⟩) R s
  | 0, i, s, e, a, j, fin => by
    have e' : i = n := e
    subst e'
    refine codeAny_builtin PyProof.Rows.F.entry_set_update_loop ?_
    rw [Around.under_plainId PyProof.Rows.F.plain_set_update_loop _]
    show wpAny _ A.in1 (pyNext (.ref I) >>= _) _ _ s
    exact wpAny_bind (W.done s _ _ a fun s' m => wpAny_pure (fin s' (m.mono fun b hb => List.mem_cons_of_mem _ hb) (Jk _ _ _ (fun b o h z => m.heap b o (fun y => h (W.sub _ y)) z) j)))
  | k + 1, i, s, e, a, j, fin => by
    have lt : i < n := by omega
    refine codeAny_builtin PyProof.Rows.F.entry_set_update_loop ?_
    rw [Around.under_plainId PyProof.Rows.F.plain_set_update_loop _]
    show wpAny _ A.in1 (pyNext (.ref I) >>= _) _ _ s
    refine wpAny_bind (W.item i s _ _ lt a fun v s' p a' m => ?_)
    have j' := Jk _ _ s'.heap (fun b o h z => m.heap b o (fun y => h (W.sub _ y)) z) j
    show wpAny _ A.in1 (holding [v] (setAdd S v) >>= _) _ _ s'
    refine wpAny_bind (wpAny_holding (st i v lt p _ s' _ j' fun b h' tk ht sb j2 => ?_))
    have off : ∀ b ∈ fp, b ≠ S := fun b hb y => hS (y ▸ hb)
    refine wpAny_pure ⟨plainId_quiet PyProof.Rows.F.plain_set_update_loop _, turns W hS Jk st k (i + 1) _ (by omega) (W.frame _ s' _ _ a' ht fun b hb o z => (sb.2 b (off b hb)).trans z) j2 fun s'' m2 jn => ?_⟩
    refine fin s'' (Moved.trans W.gtrans ((m.mono fun b hb => List.mem_cons_of_mem _ hb).then_heap ht fun b o hb z => ?_) m2) jn
    exact (sb.2 b fun y => hb (y ▸ List.mem_cons_self)).trans z
end
section
variable {prog : Program} {w : World} {A : Around} {E : Value → Shared → Prop} {s : Shared}
def bareSet (w : World) : Obj := { cls := .type "set", dict := none, data := .set #[] 0 (.fresh 0 0 (!w.params.followText "set-order")) }
theorem set_made (a : Value) {Q : Value → Shared → Prop} (h : Q (.ref s.heap.objs.size) { s with heap := s.heap.push (bareSet w) }) : codeAny (model prog w) A (.call (.builtin "set.__new__") ⟨[.type "set", a], []⟩) (wants Q E) s := by
  refine codeAny_of_tree ?_; show wpAny _ A.in1 (do checkBuiltinCall "set.__new__" ⟨[.type "set", a], []⟩; again (.builtin "set.__new__" ⟨[.type "set", a], []⟩)) _ _ s
  refine wpAny_bind (wpAny_of_eq (PySem.F.newCall_set_1 a) (wpAny_pure ⟨plainId_quiet F.plain_set_new _, codeAny_builtin F.entry_set_new ?_⟩))
  rw [Around.under_plainId F.plain_set_new _]; unfold Builtin.«set.__new__» Builtin.Frozenset.newClass
  have hsub := sub_set_self
  obtain ⟨hp, g, d, tk, os⟩ := s
  dsimp only
  wp_walk
  refine wpAny_askSetting (wpAny_pure ?_); dsimp only; simp only [newObj]
  exact wpAny_bind (wpAny_alloc (wpAny_pure (wpAny_pure h)))
set_option maxHeartbeats 3900000 in
theorem set_call {l : Addr} {xs : Array Value} {J : Nat → Heap → Prop} {Q : Value → Shared → Prop} (hh : A.handled = none) (hl : s.heap.IsList l xs)
    (Jk : ∀ i h h', (∀ b o, b ≤ s.heap.objs.size → b ≠ l → h.get? b = some o → h'.get? b = some o) → J i h → J i h')
    (J0 : ∀ h, (∀ b o, s.heap.get? b = some o → h.get? b = some o) → h.get? s.heap.objs.size = some (bareSet w) → J 0 h)
    (st : ∀ B : Around, B.handled = none → B.units = A.units + 3 → ∀ i v, xs[i]? = some v → Adds prog w B s.heap.objs.size J i v)
    (fin : ∀ h' tk, J xs.size h' → (∀ b o, s.heap.get? b = some o → h'.get? b = some o) → Q (.ref s.heap.objs.size) { s with heap := h', toks := tk }) : wpAny (model prog w) A (call (.type "set") [.ref l]) Q E s := by
  obtain ⟨c, tl, hmro⟩ := PySem.F.called_set.mro
  have hmade := PySem.F.called_set.made
  have hsub := PySem.F.called_set.sub
  refine wpAny_call (codeAny_of_tree ?_); show wpAny _ _ (callAny (.type "set") _) _ _ _
  refine wpAny_pure ⟨Code.quiet_builtin _ (by decide +kernel), codeAny_builtin PySem.F.entry_type_call ?_⟩; rw [Around.under_plain (weight_type_call_type "set" [.ref l] []) rfl]
  have a1 := PySem.F.called_set.notType
  have a2 := PySem.F.called_set.canCreate
  have a3 := PySem.F.typeCall_set_1 (.ref l)
  repeat (any_goals (first | assumption | wp_step))
  refine codeAny_mono (set_made (.ref l) (E := E) (Q := fun o z => o = .ref s.heap.objs.size ∧ z = { s with heap := s.heap.push (bareSet w) }) ⟨rfl, rfl⟩) fun r z hr => ?_
  cases r with
  | error e => exact hr
  | ok fl =>
    cases fl with
    | ret ob =>
      obtain ⟨e1, e2⟩ := hr
      subst e1 e2
      have b1 : (s.heap.push (bareSet w)).get? s.heap.objs.size = some (bareSet w) := Heap.get?_push_size _ rfl
      have b2 : Shared.TypeIs { s with heap := s.heap.push (bareSet w) } (.ref s.heap.objs.size) "set" := ⟨_, b1, rfl⟩
      have b3 := PySem.F.called_set.init.lookup
      have b4 := PySem.F.called_set.init.bind (.ref s.heap.objs.size)
      repeat (any_goals (first | assumption | wp_step))
      refine codeAny_mono (codeAny_call_builtin (R := wants (fun r z => r = .none ∧ ∃ h' tk, z = { s with heap := h', toks := tk } ∧ J xs.size h' ∧ ∀ b o, s.heap.get? b = some o → h'.get? b = some o) E) PySem.F.called_set.init.plain PySem.F.entry_set_init (check_set_init_1 b2 ?_)) fun r z hr => ?_
      · obtain ⟨ol, g1, g2, nl, g3⟩ := hl
        obtain ⟨oc, od, ox, os⟩ := ol
        simp only at g2 g3
        subst g2 g3
        have g4 : (s.heap.push (bareSet w)).get? l = some { cls := .type "list", dict := od, data := .seq xs nl, slots := os } := Heap.get?_push_of_some _ g1
        have g5 := PySem.F.sub_list_set
        have g6 := PySem.F.sub_list_frozenset
        have g7 : (Value.type "list" == Value.type "dict") = false := by decide
        have g8 : (s.heap.push (bareSet w)).IsList l xs := ⟨_, g4, rfl, nl, rfl⟩
        have zl : l < s.heap.objs.size := Heap.lt_size g1
        have zn : l ≠ (s.heap.push (bareSet w)).objs.size := by rw [Heap.size_push]; exact Nat.ne_of_lt (Nat.lt_succ_of_lt zl)
        unfold Builtin.«set.__init__» noKeywords Builtin.Frozenset.updateFrom
        generalize hPI : pyIter = PI
        wp_walk
        subst hPI
        refine wpAny_pyIter_list g8 (wpAny_bind (wpAny_runValue ?_))
        have hh3 : A.in1.in1.in1.handled = none := by simp [hh]
        have sf : s.heap.objs.size ∉ [(s.heap.push (bareSet w)).objs.size, l] := by
          rw [Heap.size_push]
          simp only [List.mem_cons, List.mem_singleton, List.not_mem_nil, or_false, not_or]
          exact ⟨Nat.ne_of_lt (Nat.lt_succ_self _), Nat.ne_of_gt zl⟩
        refine turns (J := J) ((Walks.list hh3 _ l zn xs).toS) sf (fun i h h' k j => Jk i h h' (fun b o hb hb2 e => k b o (fun m => ?_) e) j) (fun i v hi hv => st _ hh3 rfl i v hv) xs.size 0 _ (by omega) ⟨⟨_, Heap.get?_push_size _ rfl, rfl, rfl⟩, g8.push _⟩ ?_ ?_
        · rcases List.mem_cons.mp m with m | m
          · rw [m, Heap.size_push] at hb; omega
          · exact hb2 (List.mem_singleton.mp m)
        · exact J0 _ (fun b o e => Heap.get?_push_of_some _ (Heap.get?_push_of_some _ e)) (Heap.get?_push_of_some _ b1)
        · intro s' m jn
          obtain ⟨h', g', d', tk', os'⟩ := s'
          have eg : g' = s.gens := m.gens
          have ed : d' = s.drawn := m.drawn
          have eo : os' = s.os := m.os
          subst eg ed eo
          show wpAny _ _ _ _ _ _
          refine wpAny_pure ?_; show wpAny _ _ (ret Value.none) _ _ _
          refine wpAny_pure ⟨rfl, h', tk', rfl, jn, fun b o e => ?_⟩
          have lb := Heap.lt_size e
          refine m.heap b o (fun mm => ?_) (Heap.get?_push_of_some _ (Heap.get?_push_of_some _ e))
          rcases List.mem_cons.mp mm with mm | mm
          · exact absurd lb (by rw [mm]; exact Nat.lt_irrefl _)
          · exact absurd lb (by rw [List.mem_singleton.mp mm]; show ¬ (s.heap.push (bareSet w)).objs.size < s.heap.objs.size; rw [Heap.size_push]; omega)
      · cases r with
        | error e => exact hr
        | ok fl2 =>
          cases fl2 with
          | ret r =>
            obtain ⟨rfl, h', tk, rfl, jn, kk⟩ := hr
            repeat (any_goals (first | assumption | wp_step))
            exact fin _ _ jn kk
          | _ => exact hr.elim
    | _ => exact hr.elim
end
end MPS
namespace MPS
open PySem PySem.Spec PyProof.Rows PySem.W L2
def decMem {α : Type} [DecidableEq α] (k : α) (l : List α) : Decidable (k ∈ l) := inferInstance
instance (k : Key) (l : List Key) : Decidable (k ∈ l) := decMem k l
/-! ## what is met first, in order; a plain sort -/
section
variable {α : Type}
def dd [DecidableEq α] (l : List α) : List α := l.foldl (fun a x => if x ∈ a then a else a ++ [x]) []
theorem dd_snoc [DecidableEq α] (l : List α) (x : α) : dd (l ++ [x]) = if x ∈ dd l then dd l else dd l ++ [x] := by unfold dd; rw [List.foldl_append]; rfl
theorem mem_dd_rev [DecidableEq α] : ∀ l : List α, ∀ x, x ∈ dd l.reverse ↔ x ∈ l
  | [], x => by simp [dd]
  | y :: l, x => by
    rw [List.reverse_cons, dd_snoc]
    have ih := mem_dd_rev l
    by_cases h : y ∈ dd l.reverse
    · rw [if_pos h, ih, List.mem_cons]
      exact ⟨.inr, fun z => z.elim (fun z => z ▸ (ih y).mp h) id⟩
    · rw [if_neg h, List.mem_append, ih, List.mem_singleton, List.mem_cons, or_comm]
theorem mem_dd [DecidableEq α] (l : List α) (x : α) : x ∈ dd l ↔ x ∈ l := by
  have z := mem_dd_rev l.reverse x
  rwa [List.reverse_reverse, List.mem_reverse] at z
theorem nd_dd_rev [DecidableEq α] : ∀ l : List α, (dd l.reverse).Nodup
  | [] => List.nodup_nil
  | y :: l => by
    rw [List.reverse_cons, dd_snoc]
    by_cases h : y ∈ dd l.reverse
    · rw [if_pos h]; exact nd_dd_rev l
    · rw [if_neg h, List.nodup_append]
      exact ⟨nd_dd_rev l, by simp, fun a ha b hb z => h (by rw [← List.mem_singleton.mp hb, ← z]; exact ha)⟩
theorem nd_dd [DecidableEq α] (l : List α) : (dd l).Nodup := by
  have z := nd_dd_rev l.reverse
  rwa [List.reverse_reverse] at z
theorem len_dd [DecidableEq α] : ∀ l : List α, (dd l.reverse).length ≤ l.length
  | [] => Nat.le_refl _
  | y :: l => by
    have ih := len_dd l
    rw [List.reverse_cons, dd_snoc]
    split
    · exact Nat.le_succ_of_le ih
    · rw [List.length_append, List.length_cons]; exact Nat.succ_le_succ ih
theorem dd_len [DecidableEq α] (l : List α) : (dd l).length ≤ l.length := by
  have z := len_dd l.reverse
  rwa [List.reverse_reverse, List.length_reverse] at z
def ins (le : α → α → Bool) (x : α) : List α → List α
  | [] => [x]
  | y :: r => if le x y then x :: y :: r else y :: ins le x r
def isort (le : α → α → Bool) : List α → List α
  | [] => []
  | x :: r => ins le x (isort le r)
theorem ins_perm (le : α → α → Bool) (x : α) : ∀ l : List α, (ins le x l).Perm (x :: l)
  | [] => List.Perm.refl _
  | y :: r => by
    unfold ins
    split
    · exact List.Perm.refl _
    · exact ((ins_perm le x r).cons y).trans (List.Perm.swap x y r)
theorem isort_perm (le : α → α → Bool) : ∀ l : List α, (isort le l).Perm l
  | [] => List.Perm.refl _
  | x :: r => (ins_perm le x _).trans ((isort_perm le r).cons x)
theorem isort_len (le : α → α → Bool) (l : List α) : (isort le l).length = l.length := (isort_perm le l).length_eq
theorem ins_sorted {le : α → α → Bool} (T : TotalLe le) (x : α) : ∀ l : List α, l.Pairwise (fun a b => le a b = true) → (ins le x l).Pairwise (fun a b => le a b = true)
  | [], _ => List.pairwise_singleton _ _
  | y :: r, h => by
    obtain ⟨h1, h2⟩ := List.pairwise_cons.mp h
    unfold ins
    split
    · rename_i c
      refine List.pairwise_cons.mpr ⟨fun z hz => ?_, h⟩
      rcases List.mem_cons.mp hz with q | q
      · rw [q]; exact c
      · exact T.trans _ _ _ c (h1 z q)
    · rename_i c
      refine List.pairwise_cons.mpr ⟨fun z hz => ?_, ins_sorted T x r h2⟩
      rcases List.mem_cons.mp ((ins_perm le x r).mem_iff.mp hz) with q | q
      · subst q
        rcases T.total z y with w | w
        · exact absurd w c
        · exact w
      · exact h1 z q
theorem isort_sorted {le : α → α → Bool} (T : TotalLe le) : ∀ l : List α, (isort le l).Pairwise (fun a b => le a b = true)
  | [] => List.Pairwise.nil
  | x :: r => ins_sorted T x _ (isort_sorted T r)
theorem ins_rank {le : α → α → Bool} (T : TotalLe le) (x c : α) : ∀ l : List α, l.Pairwise (fun a b => le a b = true) → (ins le x l).filter (sameRank le c) = (x :: l).filter (sameRank le c)
  | [], _ => rfl
  | y :: r, h => by
    obtain ⟨h1, h2⟩ := List.pairwise_cons.mp h
    unfold ins
    split
    · rfl
    · rename_i q
      have ih := ins_rank T x c r h2
      rw [List.filter_cons, ih]
      -- x and y are not of one rank
      have no : ¬ (sameRank le c x = true ∧ sameRank le c y = true) := fun ⟨a, b⟩ => by
        unfold sameRank at a b
        rw [Bool.and_eq_true] at a b
        exact q (T.trans _ _ _ a.2 b.1)
      by_cases a : sameRank le c x = true <;> by_cases b : sameRank le c y = true
      · exact absurd ⟨a, b⟩ no
      · simp [List.filter_cons, a, b]
      · simp [List.filter_cons, a, b]
      · simp [List.filter_cons, a, b]
theorem isort_rank {le : α → α → Bool} (T : TotalLe le) (c : α) : ∀ l : List α, (isort le l).filter (sameRank le c) = l.filter (sameRank le c)
  | [] => rfl
  | x :: r => by
    show (ins le x (isort le r)).filter _ = _
    rw [ins_rank T x c _ (isort_sorted T r), List.filter_cons, List.filter_cons, isort_rank T c r]
theorem isort_eq {le : α → α → Bool} (T : TotalLe le) (l : List α) : isort le l = l.mergeSort le := sort_unique T (isort_sorted T l) fun c => isort_rank T c l
end
abbrev leD : PyData → PyData → Bool := dataLe false id
theorem leD_total : TotalLe leD := sortLe_total _ _ _
def sortD (ds : List PyData) : List PyData := isort leD ds
/-- data that can be sorted: all are alike, and tuples with something in them, or none is a tuple or None -/
def okSort (ds : List PyData) : Bool := (ds.all fun a => ds.all fun b => alike a b) && ((ds.all fun d => match d with | .tuple (_ :: _) => true | _ => false) || (ds.all fun d => match d with | .tuple _ => false | .none => false | _ => true)) && (ds.all fun d => decide (d.depth ≤ 50))
theorem okSort_ok {ds : List PyData} (h : okSort ds = true) : AllAlike ds ∧ Sortable ds ∧ ∀ d ∈ ds, d.depth ≤ 50 := by
  unfold okSort at h
  simp only [Bool.and_eq_true, Bool.or_eq_true, List.all_eq_true, decide_eq_true_eq] at h
  obtain ⟨⟨h1, h2⟩, h3⟩ := h
  refine ⟨fun d hd d' hd' => h1 d hd d' hd', ?_, h3⟩
  rcases h2 with h2 | h2
  · refine .inl fun d hd => ?_
    have z := h2 d hd
    split at z
    · exact ⟨_, _, rfl⟩
    · cases z
  · refine .inr fun d hd => ?_
    have z := h2 d hd
    split at z
    · cases z
    · cases z
    · rename_i a b
      exact ⟨b, fun xs e => a xs e⟩
section
variable {X : Cx}
/-- sorted(xs) of data -/
def rSortD (K : PySem.W.Frag) : List V → Hp → VK → Prop := fun vs H Q => ∃ (a : Addr) (xs : List V) (ds : List PyData) (P : V → PyData → Prop), vs = [V.ref a] ∧ SqL K H a xs ∧ Paired P xs ds ∧ (∀ v d, P v d → Dp K H v d) ∧ okSort ds = true ∧
  ∀ ys p, Paired P ys (sortD ds) → H p = none → Q (.ref p) (upd H p (.lst ys))
theorem each_pairs {P : V → PyData → Prop} : ∀ {xs : List V} {ds : List PyData} {us : List Value}, Paired P xs ds → Vals xs us → EachIs (fun u (p : V × PyData) => RelV p.1 u ∧ P p.1 p.2) us (xs.zip ds)
  | _, _, _, .nil, .nil => .nil
  | _, _, _, .cons h t, .cons r q => .cons ⟨r, h⟩ (each_pairs t q)
theorem pairs_each {P : V → PyData → Prop} : ∀ {us : List Value} {ps : List (V × PyData)}, EachIs (fun u (p : V × PyData) => RelV p.1 u ∧ P p.1 p.2) us ps → Vals (ps.map Prod.fst) us ∧ Paired P (ps.map Prod.fst) (ps.map Prod.snd)
  | _, _, .nil => ⟨.nil, .nil⟩
  | _, _, .cons h t => let ⟨a, b⟩ := pairs_each t; ⟨.cons h.1 a, .cons h.2 b⟩
theorem snd_zip {P : V → PyData → Prop} : ∀ {xs : List V} {ds : List PyData}, Paired P xs ds → (xs.zip ds).map Prod.snd = ds
  | _, _, .nil => rfl
  | _, _, .cons h t => by rw [List.zip_cons_cons, List.map_cons, snd_zip t]
theorem each_imp {α β : Type} {R R' : α → β → Prop} : ∀ {as : List α} {bs : List β}, EachIs R as bs → (∀ a b, R a b → R' a b) → EachIs R' as bs
  | _, _, .nil, _ => .nil
  | _, _, .cons h t, k => .cons (k _ _ h) (each_imp t k)
theorem cr_sortD (hu : X.A.units + 65 < cLine) : CallR X (.builtin "sorted") (rSortD X.K) := by
  intro pins s σ H vs us Q I r h
  obtain ⟨a, xs, ds, P, rfl, hl, hp, hd, ok, q⟩ := h
  obtain ⟨its, rv, pl, hz⟩ := I.list hl
  rw [Vals.ref1 r]
  obtain ⟨o1, o2, o3⟩ := okSort_ok ok
  have e1 := each_pairs hp rv
  have sz := snd_zip hp
  have lz : (xs.zip ds).length = xs.length := by rw [List.length_zip, hp.length, Nat.min_self]
  refine sorted_data (enc := Prod.snd) (bs := xs.zip ds) pl.isList e1 (each_imp e1 fun u p z => Dp.reads I p.2 p.1 u (hd _ _ z.2) z.1) (by rw [sz]; exact o1) (by rw [sz]; exact o2) (by rw [lz]; exact hz) (fun b hb => ?_) fun out hl2 ho => ?_
  · have : b.2 ∈ ds := by rw [← sz]; exact List.mem_map_of_mem hb
    have := o3 _ this
    omega
  · obtain ⟨v1, v2⟩ := pairs_each ho
    obtain ⟨e, he⟩ := sortedAll_at s.heap its (List.toArray out)
    have so : ((xs.zip ds).mergeSort (dataLe false Prod.snd)).map Prod.snd = sortD ds := by
      have z := sort_maps (r := dataLe false Prod.snd) (s := leD) (l := xs.zip ds) Prod.snd fun _ _ _ _ => rfl
      rw [z, sz]
      exact (isort_eq leD_total ds).symm
    rw [so] at v2
    refine ⟨.ref _, _, I.laid (t' := s.toks) (o := .lst (((xs.zip ds).mergeSort (dataLe false Prod.snd)).map Prod.fst)) (fun b o z => sortedAll_old z) (Nat.le_succ _) ⟨?_, out, e, v1, he⟩, rfl, q _ _ v2 (I.hok.fresh (Nat.le_succ _))⟩
    have n1 := v1.length
    have n2 := e1.length
    have n3 := ho.length
    rw [n1, hl2, lz]
    exact hz
end
/-! ## sets of ints and of keys, of a list -/
section
variable {prog : Program} {w : World} {A : Around} {E : Value → Shared → Prop} {s : Shared}
theorem take_in {α : Type} {l : List α} {i : Nat} {x : α} (h : l[i]? = some x) : l.take (i + 1) = l.take i ++ [x] := by rw [List.take_add_one, h]; rfl
theorem bare_ints {h : Heap} {S : Addr} (e : h.get? S = some (bareSet w)) : SetR w h S (fun k => decide (k ∈ dd ([] : List Int))) 0 :=
  ⟨_, #[], 0, _, e, ⟨rfl, rfl, rfl⟩, rfl, (fun e he => by simp at he), (by simp), (fun k => by simp [dd]), (by decide), (by rfl), rfl, List.Pairwise.nil, by
    show _ ∨ (!w.params.followText "set-order") = true
    cases w.params.followText "set-order" <;> simp⟩
theorem set_ints {l : Addr} {xs : Array Value} {ns : List Int} {Q : Value → Shared → Prop} (hh : A.handled = none) (hl : s.heap.IsList l xs) (hi : IntsAre xs.toList ns) (hb : ns.length + 1 < scanBound)
    (fin : ∀ h' tk, SetR w h' s.heap.objs.size (fun k => decide (k ∈ dd ns)) (dd ns).length → (∀ b o, s.heap.get? b = some o → h'.get? b = some o) → Q (.ref s.heap.objs.size) { s with heap := h', toks := tk }) : wpAny (model prog w) A (call (.type "set") [.ref l]) Q E s := by
  have hz : xs.size = ns.length := by have := hi.sizeZ; simp at this; omega
  have zl : l < s.heap.objs.size := by obtain ⟨o, h, _⟩ := hl; exact Heap.lt_size h
  refine set_call (J := fun i h => SetR w h s.heap.objs.size (fun k => decide (k ∈ dd (ns.take i))) (dd (ns.take i)).length) hh hl (fun i h h' k j => j.at fun o e => k _ o (Nat.le_refl _) (Nat.ne_of_gt zl) e) (fun h _ e => bare_ints e) (fun B _ _ i v hv => ?_) fun h' tk j k => ?_
  · intro E z Q j q
    have lt : i < ns.length := by rw [← hz]; exact (Array.getElem?_eq_some_iff.mp hv).1
    obtain ⟨t, rfl⟩ : ∃ t, v = .int ns[i] t := by
      obtain ⟨n, t, e, e2⟩ := IntsAre.at hi i v (by rw [Array.getElem?_toList]; exact hv)
      rw [List.getElem?_eq_getElem lt] at e2
      cases e2
      exact ⟨t, e⟩
    have tk : ns.take (i + 1) = ns.take i ++ [ns[i]] := take_in (List.getElem?_eq_getElem lt)
    unfold setAdd
    refine wpAny_holding (wpAny_bind ((intKind prog w).pyHash (intKind_is prog w _ t) ?_))
    have room : (dd (ns.take i)).length + 1 < scanBound := by
      have := dd_len (ns.take i)
      have := List.length_take_le i ns
      omega
    refine setR_add_hashed (s := { z with toks := z.toks + 1 }) j room fun h' sb r => q _ h' _ (Nat.le_succ _) sb ?_
    show SetR w h' s.heap.objs.size (fun k => decide (k ∈ dd (ns.take (i + 1)))) (dd (ns.take (i + 1))).length
    rw [tk, dd_snoc]
    by_cases m : ns[i] ∈ dd (ns.take i)
    · rw [if_pos m]
      rw [if_pos (decide_eq_true m)] at r
      refine r.congr fun k => ?_
      by_cases c : k = ns[i]
      · subst c; simp [m]
      · simp [c]
    · rw [if_neg m, List.length_append]
      rw [if_neg (by simpa using m)] at r
      exact r.congr fun k => by simp [List.mem_append, Bool.decide_or]
  · have e : ns.take xs.size = ns := by rw [hz, List.take_length]
    rw [e] at j
    exact fin _ _ j k
end
section
variable {prog : Program} {w : World} {A : Around} {E : Value → Shared → Prop} {s : Shared}
theorem each_perm {α β : Type} {R : α → β → Prop} : ∀ {as as' : List α}, as'.Perm as → ∀ {bs : List β}, EachIs R as bs → ∃ bs' : List β, EachIs R as' bs' ∧ bs'.Perm bs := by
  intro as as' p
  induction p with
  | nil => intro bs e; exact ⟨bs, e, List.Perm.refl _⟩
  | cons x _ ih =>
    intro bs e
    cases e with
    | cons h t =>
      obtain ⟨b', e', p'⟩ := ih t
      exact ⟨_ :: b', .cons h e', p'.cons _⟩
  | swap x y l =>
    intro bs e
    cases e with
    | cons h t =>
      cases t with
      | cons h2 t2 => exact ⟨_ :: _ :: _, .cons h2 (.cons h t2), List.Perm.swap _ _ _⟩
  | trans _ _ ih1 ih2 =>
    intro bs e
    obtain ⟨b1, e1, p1⟩ := ih2 e
    obtain ⟨b2, e2, p2⟩ := ih1 e1
    exact ⟨b2, e2, p2.trans p1⟩
theorem sorted_coll {β : Type} {a : Addr} {es : Array (Int × Value)} {ep : Nat} {t : SetTable} {R : Value → β → Prop} {enc : β → PyData} {bs : List β} {Q : Value → Shared → Prop} (hh : A.handled = none) (ha : SetAt s.heap a es ep t) (hf : t.fits es.size = true) (hz : es.size < scanBound) (ri : Ris t.place.toList)
    (hl : w.params.followText "set-order" = true ∨ t.led = true) (e : EachIs R (es.toList.map (·.2)) bs) (er : ∀ v b, R v b → ∃ as, Reads s.heap v (enc b) as) (al : AllAlike (bs.map enc)) (so : Sortable (bs.map enc)) (hu : ∀ b ∈ bs, A.units + 4 + (enc b).depth < cLine)
    (fin : ∀ s' p (out : List Value) c (bs' : List β), (∀ b o, s.heap.get? b = some o → s'.heap.get? b = some o) → s'.gens = s.gens → s'.os = s.os → s.heap.objs.size ≤ p → s'.heap.get? p = some (seqObj "list" out.toArray c) → bs'.Perm bs → EachIs R out (bs'.mergeSort (dataLe false enc)) → Q (.ref p) s') :
    wpAny (model prog w) A (call (.builtin "sorted") [.ref a]) Q E s := by
  refine Calls.call_function_entry kind_sorted plain_sorted entry_sorted (args_sorted1 _) ?_
  unfold Builtin.«sorted»
  refine wpAny_bind (m := checkCount "sorted" 1 1 _) (wpAny_pure ?_)
  refine wpAny_bind (collect_set (A := A.in1) hh ha hf hz ri hl fun s1 vs k1 z1 g1 o1 pm => ?_)
  obtain ⟨bs', e', pb⟩ := each_perm pm e
  have lb : vs.length = bs'.length := e'.length
  have lz : bs'.length ≤ sizeLine := by
    rw [← lb, pm.length_eq, List.length_map, Array.length_toList]
    have : scanBound ≤ sizeLine := by decide
    omega
  have mem : ∀ {d}, d ∈ bs'.map enc → d ∈ bs.map enc := fun h => (pb.map enc).mem_iff.mp h
  refine wpAny_bind (wpAny_newList ?_ (by rw [lb]; exact lz))
  have hoL : (s1.heap.push (seqObj "list" vs.toArray 0)).get? s1.heap.objs.size = some (seqObj "list" vs.toArray 0) := Heap.get?_push_size _ rfl
  have old : ∀ b o, s.heap.get? b = some o → b ≠ s1.heap.objs.size ∧ (s1.heap.push (seqObj "list" vs.toArray 0)).get? b = some o := fun b o q => ⟨Nat.ne_of_lt (Heap.lt_size (k1 b o q)), Heap.get?_push_of_some _ (k1 b o q)⟩
  have red : ∀ v b, R v b → ∃ as, Reads (s1.heap.push (seqObj "list" vs.toArray 0)) v (enc b) as ∧ s1.heap.objs.size ∉ as := fun v b h => by
    obtain ⟨as, q⟩ := er v b h
    refine ⟨as, PyProof.Rows.Reads.keeps (fun b o z => (old b o z).2) q, fun m => ?_⟩
    obtain ⟨o, z⟩ := PyProof.On.reads_mem_get q _ m
    exact (old _ o z).1 rfl
  refine wpAny_bind (wpAny_holding (list_sort_data (s := { s1 with heap := s1.heap.push (seqObj "list" vs.toArray 0) }) (bs := bs') (enc := enc) hoL e' (each_imp e' red) (fun d hd d' hd' => al d (mem hd) d' (mem hd')) (so.elim (fun z => .inl fun d hd => z d (mem hd)) fun z => .inr fun d hd => z d (mem hd)) lz (fun b hb => ?_) fun out hlo ho => ?_))
  · have q := hu b (pb.mem_iff.mp hb)
    have : A.in1.units = A.units + 1 := rfl
    omega
  · obtain ⟨c, hc⟩ := sortedHeap_at (vs := vs) (out := out.toArray) hoL
    refine wpAny_pure ⟨_, rfl, fin _ s1.heap.objs.size out c bs' (fun b u q => ?_) g1 o1 z1 hc pb ho⟩
    have q' := k1 b u q
    have hlt := Heap.lt_size q'
    show (sortedHeap (s1.heap.push (seqObj "list" vs.toArray 0)) s1.heap.objs.size vs out.toArray).get? b = some u
    rw [sortedHeap_old (Nat.ne_of_lt hlt) (by rw [size_push']; exact Nat.lt_succ_of_lt hlt)]
    exact Heap.get?_push_of_some _ q'
end
section
variable {X : Cx}
/-- f(set(x)), by values -/
def SetThen (X : Cx) (f : Value) (r : V → Hp → VK → Prop) : Prop := ∀ (pins : List (Addr × Obj)) (s : Shared) (σ : L2.St) (H : Hp) (x : V) (u : Value) (Q : VK), Inv X pins σ H s → RelV x u → r x H Q →
  wpAny (model X.prog X.w) X.A (call (.type "set") [u]) (fun v s' => wpAny (model X.prog X.w) X.A (call f [v]) (EP X pins σ Q) X.xe s') X.xe s
theorem pe_setThen {f : String} {r : V → Hp → VK → Prop} {n : PySem.Str} {a : PySem.Expr} {ta : TE} {p p2 q pos : Pos} (hr : SetThen X (.builtin f) r) (hg : Gl X n) (hm : X.mg n = none) (hv : bootBuiltins n = some (.builtin f)) (hn : n ≠ "__name__") (hdb : (n == ("__debug__" : PySem.Str)) = false) (hg2 : Gl X "set") (hm2 : X.mg "set" = none) (ha : PE X a ta)
    (na : starEach [a] X.env = (false, eval a X.env) :: starEach [] X.env) : PE X (.Call (.Name n p) [.Call (.Name "set" p2) [a] [] q] [] pos) (fun σ H Q => ta σ H fun x H1 => r x H1 Q) := by
  refine ⟨fun pins s σ H Q I h => ?_⟩
  refine wpAny_Call_Name_kw (ld_blt I hg hm hv ?_ hn hdb)
  refine PyProof.Rows.callWith_builtin1 (PyProof.Rows.args_cons ?_ rfl) rfl rfl
  refine Call_ (ld_blt I hg2 hm2 boot_set ?_)
  refine PyProof.Rows.callWith_type1 (PyProof.Rows.args_cons (thn (ha.run pins s σ H _ I h) fun v s1 ⟨x, H1, I1, r1, q1⟩ => PyProof.Rows.args_nil ?_) na) na rfl
  exact thn (hr pins s1 σ H1 x v Q I1 r1 q1) fun u s2 z => PyProof.Rows.args_nil z
/-- sorted(set(x)), x a list of ints -/
def rSSetI (K : PySem.W.Frag) : V → Hp → VK → Prop := fun x H Q => ∃ (l : Addr) (ns : List Int), x = .ref l ∧ SqL K H l (ns.map V.int) ∧ ns.length + 1 < scanBound ∧ ∀ p, H p = none → Q (.ref p) (upd H p (.lst ((isort (fun a b => decide (a ≤ b)) (dd ns)).map V.int)))
theorem sset_ints (hc : X.calm = true) (hu : X.A.units + 65 < cLine) : SetThen X (.builtin "sorted") (rSSetI X.K) := by
  intro pins s σ H x u Q I r h
  obtain ⟨l, ns, rfl, hl, hb, q⟩ := h
  cases r
  obtain ⟨its, rv, pl, hz⟩ := I.list hl
  refine set_ints (I.ok.hd hc) pl.isList (by simpa using rv.ints) hb fun h' tk R k => ?_
  obtain ⟨o, es, ep, t, ho, hex, hd, g, nd, hm, hz2, hf, hn, hr, hl2⟩ := R
  have each : ∀ l : List (Int × Value), (∀ e ∈ l, GoodE e) → EachIs (fun u n => ∃ t, u = Value.int n t) (l.map (·.2)) (l.map keyOf) := fun l => by
    induction l with
    | nil => exact fun _ => .nil
    | cons e l ih =>
      intro h
      obtain ⟨n, tk, e1, e2⟩ := h e List.mem_cons_self
      refine .cons ⟨tk, ?_⟩ (ih fun x hx => h x (List.mem_cons_of_mem _ hx))
      show e.2 = Value.int (keyOf e) tk
      unfold keyOf
      rw [e1]
  have T : TotalLe (fun a b : Int => decide (a ≤ b)) := ⟨fun a b c h1 h2 => decide_eq_true (Int.le_trans (of_decide_eq_true h1) (of_decide_eq_true h2)), fun a b => by rcases Int.le_total a b with z | z <;> simp [z]⟩
  refine sorted_coll (s := { s with heap := h', toks := tk }) (R := fun u n => ∃ t, u = Value.int n t) (bs := es.toList.map keyOf) (enc := fun n => .int n) (I.ok.hd hc) ⟨o, ho, hex.1, hd⟩ hf hz2 hr hl2 (each _ g) (fun v b h => ?_) (AllAlike.of fun _ _ => by simp [alike]) (Sortable.others fun b => ⟨by simp, by simp⟩) (fun b _ => ?_) fun s' p out c bs' k2 g2 o2 sz hp pb eo => ?_
  · obtain ⟨t, rfl⟩ := h
    exact ⟨_, Reads.int _ _⟩
  · have : (PyData.int b).depth = 0 := by simp [PyData.depth]
    omega
  · have hk : isort (fun a b => decide (a ≤ b)) (dd ns) = bs'.mergeSort (dataLe false fun n => .int n) := by
      rw [dataLe_int]
      refine List.Perm.eq_of_pairwise (le := fun a b : Int => decide (a ≤ b) = true) (fun a b _ _ h1 h2 => Int.le_antisymm (of_decide_eq_true h1) (of_decide_eq_true h2)) (isort_sorted T _) (sort_pairwise T _) ?_
      refine (isort_perm _ _).trans (List.Perm.trans ?_ (List.mergeSort_perm _ _).symm)
      refine List.Perm.trans ?_ pb.symm
      exact (List.perm_ext_iff_of_nodup (nd_dd ns) nd).mpr fun x => by rw [← hm x, decide_eq_true_iff]
    have vis : ∀ {us : List Value} {ns : List Int}, EachIs (fun u n => ∃ t, u = Value.int n t) us ns → Vals (ns.map V.int) us := by
      intro us ns h
      induction h with
      | nil => exact .nil
      | cons h _ ih => obtain ⟨t, rfl⟩ := h; exact .cons ⟨t, rfl⟩ ih
    rw [← hk] at eo
    have hv := vis eo
    have le : s.heap.objs.size ≤ p := Nat.le_trans (Nat.le_of_lt (Heap.lt_size (show h'.get? s.heap.objs.size = some o from ho))) sz
    have kk : ∀ b u, s.heap.get? b = some u → s'.heap.get? b = some u := fun b u e => k2 b u (k b u e)
    have hlen : ((isort (fun a b => decide (a ≤ b)) (dd ns)).map V.int).length ≤ sizeLine := by
      rw [List.length_map, isort_len]
      have := dd_len ns
      have : scanBound ≤ sizeLine := by decide
      omega
    have hfree : H p = none := I.hok.fresh le
    have J : Inv X pins σ (upd H p (.lst ((isort (fun a b => decide (a ≤ b)) (dd ns)).map V.int))) { s with heap := s'.heap, gens := s'.gens, drawn := s'.drawn, toks := s'.toks } :=
      I.call (ch := []) (Un.laid kk le hfree) (I.hok.laid kk le ⟨hlen, out, c, hv, hp⟩) (by rw [g2]; exact I.bare) (fun _ z => nomatch z)
    have e : s' = { s with heap := s'.heap, gens := s'.gens, drawn := s'.drawn, toks := s'.toks } := by
      cases s'
      cases s
      cases o2
      rfl
    rw [e]
    exact ⟨.ref p, _, J, rfl, q p hfree⟩
theorem setOf_same {P : Program} {w : World} {h : Heap} {a : Addr} {S S' : Key → Bool} {n n' : Nat} (j : h.SetOf (mixKind P w) a S n) (e : ∀ k, S k = S' k) (en : n = n') : h.SetOf (mixKind P w) a S' n' := by
  cases funext e
  cases en
  exact j
/-- len(set(x)), x a list of ints and texts -/
def rLSetK (K : PySem.W.Frag) : V → Hp → VK → Prop := fun x H Q => ∃ (l : Addr) (ks : List Key), x = .ref l ∧ SqL K H l (ks.map kV) ∧ ks.length + 1 < scanBound ∧ Q (.int ((dd ks).length : Nat)) H
theorem lset_keys (hc : X.calm = true) : SetThen X (.builtin "len") (rLSetK X.K) := by
  intro pins s σ H x u Q I r h
  obtain ⟨l, ks, rfl, hl, hb, q⟩ := h
  cases r
  obtain ⟨its, rv, pl, hz⟩ := I.list hl
  have zl : l < s.heap.objs.size := by obtain ⟨o, h, _⟩ := pl.isList; exact Heap.lt_size h
  have hzz : its.toArray.size = ks.length := by rw [List.size_toArray, ← rv.length, List.length_map]
  have at_i : ∀ {ks : List Key} {us : List Value} (i : Nat) (v : Value), Vals (ks.map kV) us → us[i]? = some v → ∃ k, ks[i]? = some k ∧ RelV (kV k) v := by
    intro ks
    induction ks with
    | nil => intro us i v r h; cases r; simp at h
    | cons k ks ih =>
      intro us i v r h
      cases r with
      | cons r t =>
        cases i with
        | zero => simp at h; subst h; exact ⟨k, rfl, r⟩
        | succ i => exact ih i v t (by simpa using h)
  refine set_call (J := fun i h => h.SetOf (mixKind X.prog X.w) s.heap.objs.size (fun k : Key => decide (k ∈ dd (ks.take i))) (dd (ks.take i)).length) (I.ok.hd hc) pl.isList (fun i h h' k j => setOf_at j fun o e => k _ o (Nat.le_refl _) (Nat.ne_of_gt zl) e) (fun h _ e => ?_) (fun B _ _ i v hv => ?_) fun h' tk j k => ?_
  · exact ⟨_, #[], 0, _, e, ⟨rfl, rfl, rfl⟩, rfl, fun e he => by simp at he, fun k => by simp [dd], by decide, by rfl, rfl⟩
  · intro E z Q j q
    obtain ⟨k, hk, rk⟩ := at_i i v rv (by rw [← Array.getElem?_toList] at hv; simpa using hv)
    have lt : i < ks.length := (List.getElem?_eq_some_iff.mp hk).1
    have tk : ks.take (i + 1) = ks.take i ++ [k] := take_in hk
    have room : (dd (ks.take i)).length + 1 < scanBound := by
      have := dd_len (ks.take i)
      have := List.length_take_le i ks
      omega
    unfold setAdd
    refine wpAny_holding (wpAny_bind ((mixKind X.prog X.w).pyHash (kV_is rk) ?_))
    refine wpAny_setAddHashed_of (knd := mixKind X.prog X.w) (s := { z with toks := z.toks + 1 }) (kV_is rk) (key_scan rk) j room fun h' sb r => q _ h' _ (Nat.le_succ _) sb ?_
    show h'.SetOf (mixKind X.prog X.w) s.heap.objs.size (fun k : Key => decide (k ∈ dd (ks.take (i + 1)))) (dd (ks.take (i + 1))).length
    rw [tk, dd_snoc]
    by_cases m : k ∈ dd (ks.take i)
    · rw [if_pos m]
      rw [if_pos (decide_eq_true m)] at r
      refine setOf_same r (fun k' => ?_) rfl
      rw [Bool.eq_iff_iff]
      simp only [Bool.or_eq_true, decide_eq_true_eq]
      exact ⟨fun z => z.elim id fun z => z ▸ m, .inl⟩
    · rw [if_neg m, List.length_append]
      rw [if_neg (by simpa using m)] at r
      exact setOf_same r (fun k' => by rw [Bool.eq_iff_iff]; simp only [Bool.or_eq_true, decide_eq_true_eq, List.mem_append, List.mem_singleton]) rfl
  · have e : ks.take its.toArray.size = ks := by rw [hzz, List.take_length]
    rw [e] at j
    obtain ⟨o, es, ep, t, ho, hex, hd, _, _, hb2, hf, hn⟩ := j
    have I2 : Inv X pins σ H { s with heap := h', toks := tk } := I.kept fun b o e => k b o e
    have : scanBound ≤ 2 ^ 60 := by decide
    exact call_len_set (s := { s with heap := h', toks := tk }) ho hex hd hf (by rw [hn] at hb2 ⊢; omega) ⟨.int ((dd ks).length : Nat), H, I2.tok _, ⟨_, by rw [hn]⟩, q⟩
end
end MPS
namespace MPS
open PySem PySem.Spec PyProof.Rows PySem.W L2
section
variable {X : Cx}
def keyPD : Key → PyData | .inl i => .int i | .inr x => .str x
theorem keyPD_reads {h : Heap} {k : Key} {u : Value} (e : RelV (kV k) u) : ∃ as, Reads h u (keyPD k) as := by
  cases k with
  | inl i => obtain ⟨t, rfl⟩ := e; exact ⟨_, .int _ _⟩
  | inr x => obtain ⟨t, rfl⟩ := e; exact ⟨_, .str _ _⟩
theorem keyPD_depth (k : Key) : (keyPD k).depth = 0 := by cases k <;> simp [keyPD, PyData.depth]
/-- sorted(d), its keys all ints or all texts -/
def rSortK : List V → Hp → VK → Prop := fun vs H Q => ∃ (a : Addr) (kvs : List (Key × V)), vs = [V.ref a] ∧ Rd H a (.dK kvs) ∧ okSort ((kvs.map (·.1)).map keyPD) = true ∧
  ∀ p, H p = none → Q (.ref p) (upd H p (.lst ((isort (dataLe false keyPD) (kvs.map (·.1))).map kV)))
theorem cr_sortK (hc : X.calm = true) (hu : X.A.units + 65 < cLine) : CallR X (.builtin "sorted") rSortK := by
  intro pins s σ H xs us Q I r q
  obtain ⟨a, kvs, rfl, hd, ok, q⟩ := q
  obtain ⟨o1, o2, o3⟩ := okSort_ok ok
  rw [Vals.ref1 r]
  obtain ⟨z, lo, vs, rel, dd⟩ := dk_rd I.hok hd
  obtain ⟨ep, hat⟩ := dd.dictAt
  have hz : vs.length ≤ sizeLine := by rw [← rel.length]; exact z
  have ke := rel.keys
  refine Calls.call_function_entry PyProof.Rows.kind_sorted PyProof.Rows.plain_sorted PyProof.Rows.entry_sorted (PyProof.Rows.args_sorted1 _) ?_
  unfold Builtin.«sorted»
  refine wpAny_bind (m := checkCount "sorted" 1 1 _) (wpAny_pure ?_)
  refine wpAny_bind (PySem.W.kdu_collect (A := X.A.in1) (PySem.W.kdl_dict (knd := mixKind X.prog X.w) (kvs := vs) (ep := ep) lo) (I.ok.hd hc) hat hz fun h' tk acc hk hacc => ?_)
  have each : ∀ (ks : List Key) (us : List Value), us.length = ks.length → (∀ j u k, us[j]? = some u → ks[j]? = some k → RelV (kV k) u) → EachIs (fun u k => RelV (kV k) u) us ks := fun ks => by
    induction ks with
    | nil => intro us hl _; cases us with | nil => exact .nil | cons => simp at hl
    | cons k ks ih =>
      intro us hl f
      cases us with
      | nil => simp at hl
      | cons u us => exact .cons (f 0 u k rfl rfl) (ih us (by simpa using hl) fun j u k h1 h2 => f (j + 1) u k (by simpa using h1) (by simpa using h2))
  have hal : acc.toList.length = (kvs.map (·.1)).length := by rw [Array.length_toList, hacc.1, ke, List.length_map]
  have e1 : EachIs (fun u k => RelV (kV k) u) acc.toList (kvs.map (·.1)) := each _ _ hal fun j u k h1 h2 => by
    obtain ⟨k', x, g1, g2⟩ := hacc.2 j u (by rw [← Array.getElem?_toList]; exact h1)
    rw [ke, List.getElem?_map, g1] at h2
    cases h2
    exact keyIs_rel g2
  have I1 : Inv X pins σ H { s with heap := h', toks := tk } := I.kept hk
  have lz : (kvs.map (·.1)).length ≤ sizeLine := by rw [List.length_map]; exact z
  refine wpAny_bind (wpAny_newList ?_ (by rw [hal]; exact lz))
  have hoL : (h'.push (seqObj "list" acc.toList.toArray 0)).get? h'.objs.size = some (seqObj "list" acc.toList.toArray 0) := Heap.get?_push_size _ rfl
  show wpAny _ _ _ _ _ { s with heap := h'.push (seqObj "list" acc.toList.toArray 0), toks := tk }
  refine wpAny_bind (wpAny_holding (list_sort_data (s := { s with heap := h'.push (seqObj "list" acc.toList.toArray 0), toks := tk }) (bs := kvs.map (·.1)) (enc := keyPD) hoL e1 (each_imp e1 fun u k h => ?_) o1 o2 lz (fun k _ => ?_) fun out hlo ho => ?_))
  · cases k with
    | inl i => obtain ⟨t, rfl⟩ := h; exact ⟨_, .int _ _, by simp⟩
    | inr x => obtain ⟨t, rfl⟩ := h; exact ⟨_, .str _ _, by simp⟩
  · rw [keyPD_depth]
    have : X.A.in1.units = X.A.units + 1 := rfl
    omega
  · obtain ⟨c, hc2⟩ := sortedHeap_at (vs := acc.toList) (out := out.toArray) hoL
    have T : TotalLe (dataLe false keyPD) := sortLe_total _ _ _
    rw [← isort_eq T] at ho
    have hv : ∀ {us : List Value} {ks : List Key}, EachIs (fun u k => RelV (kV k) u) us ks → Vals (ks.map kV) us := by
      intro us ks h
      induction h with
      | nil => exact .nil
      | cons h _ ih => exact .cons h ih
    refine wpAny_pure ⟨_, rfl, .ref h'.objs.size, upd H h'.objs.size (.lst ((isort (dataLe false keyPD) (kvs.map (·.1))).map kV)), I1.laid (t' := tk) (fun b u e => ?_) (Nat.le_refl _)
      (show ObjOk X.prog X.w _ _ _ (.lst ((isort (dataLe false keyPD) (kvs.map (·.1))).map kV)) from ⟨by rw [List.length_map, isort_len]; exact lz, out, c, hv ho, hc2⟩), rfl, q _ (I1.hok.fresh (Nat.le_refl _))⟩
    have hb : b < h'.objs.size := Heap.lt_size e
    rw [PyProof.Rows.sortedHeap_old (Nat.ne_of_lt hb) (by rw [size_push']; exact Nat.lt_succ_of_lt hb)]
    exact Heap.get?_push_of_some _ e
/-- min(xs) of data -/
def rMinD (K : PySem.W.Frag) : List V → Hp → VK → Prop := fun vs H Q => ∃ (a : Addr) (xs : List V) (d : PyData) (ds : List PyData), vs = [V.ref a] ∧ SqL K H a xs ∧ DpAll K H xs (d :: ds) ∧ okSort (d :: ds) = true ∧ PyData.canLayAll0 (d :: ds) = true ∧
  ∀ (i : Nat) y, xs[i]? = some y → (d :: ds)[i]? = some (minD d ds) → Q y H
theorem depthAll_le : ∀ {ds : List PyData} {n : Nat}, (∀ d ∈ ds, d.depth ≤ n) → PyData.depthAll ds ≤ n
  | [], _, _ => by simp [PyData.depthAll]
  | d :: ds, n, h => by
    have h1 := h d List.mem_cons_self
    have h2 := depthAll_le fun x hx => h x (List.mem_cons_of_mem _ hx)
    rw [PyData.depthAll]
    exact Nat.max_le.mpr ⟨h1, h2⟩
theorem cr_minD (hc : X.calm = true) (hu : X.A.units + 65 < cLine) : CallR X (.builtin "min") (rMinD X.K) := by
  intro pins s σ H vs us Q I r h
  obtain ⟨a, xs, d, ds, rfl, hl, hd, ok, cl, q⟩ := h
  obtain ⟨o1, o2, o3⟩ := okSort_ok ok
  obtain ⟨its, rv, pl, hz⟩ := I.list hl
  rw [Vals.ref1 r]
  obtain ⟨as, rd⟩ := Dp.readsAll I (d :: ds) xs its hd rv
  have hdp := depthAll_le o3
  refine min_list_data (I.ok.hd hc) pl.isList (by simpa using rd) ⟨fun x hx y hy => o1 x hx y hy, fun x hx => o2.elim (fun z e => by obtain ⟨_, _, z⟩ := z x hx; rw [e] at z; cases z) fun z => (z x hx).1⟩ (by omega) fun i v h' tk bs hv rb hk => ?_
  have hv' : its[i]? = some v := by simpa using hv
  have hlt : i < xs.length := by rw [rv.length]; exact (List.getElem?_eq_some_iff.mp hv').1
  have ey : xs[i]? = some xs[i] := List.getElem?_eq_getElem hlt
  have ry : RelV xs[i] v := by
    have at_i : ∀ {xs : List V} {us : List Value} (i : Nat) (x : V) (v : Value), Vals xs us → xs[i]? = some x → us[i]? = some v → RelV x v := by
      intro xs
      induction xs with
      | nil => intro us i x v _ h; simp at h
      | cons x0 xs ih =>
        intro us i x v r h1 h2
        cases r with
        | cons r t =>
          cases i with
          | zero => simp at h1 h2; subst h1 h2; exact r
          | succ i => exact ih i x v t (by simpa using h1) (by simpa using h2)
    exact at_i i _ v rv ey hv'
  have rds : ∀ {us : List Value} {ds : List PyData} {as : List Addr} (i : Nat) (v : Value), ReadsAll s.heap us ds as → us[i]? = some v → ∃ e bs, ds[i]? = some e ∧ Reads s.heap v e bs := by
    intro us
    induction us with
    | nil => intro ds as i v _ h; simp at h
    | cons u us ih =>
      intro ds as i v r h
      cases r with
      | cons r t =>
        cases i with
        | zero => simp at h; subst h; exact ⟨_, _, rfl, r⟩
        | succ i => obtain ⟨e, bs, e1, e2⟩ := ih i v t (by simpa using h); exact ⟨e, bs, by simpa using e1, e2⟩
  obtain ⟨e, bs2, e1, e2⟩ := rds i v rd hv'
  have lay : ∀ {ds : List PyData} {i : Nat} {e : PyData}, PyData.canLayAll0 ds = true → ds[i]? = some e → e.canLay0 = true := by
    intro ds
    induction ds with
    | nil => intro i e _ h; simp at h
    | cons x xs ih =>
      intro i e c h
      simp only [PyData.canLayAll0, Bool.and_eq_true] at c
      cases i with
      | zero => simp at h; subst h; exact c.1
      | succ i => exact ih c.2 (by simpa using h)
  have ee : e = minD d ds := PySem.SeqAt.Reads.unique e (minD d ds) v _ _ (lay cl e1) (PyProof.Rows.Reads.keeps hk e2) rb
  have I2 : Inv X pins σ H { s with heap := h', toks := tk } := I.kept hk
  exact ⟨xs[i], H, I2, ry, q i _ ey (by rw [e1, ee])⟩
end
end MPS
namespace MPX
open PySem PySem.W PySem.Calls PyProof.Rows PySem.Spec PySem.HandSPX L2
section
variable {X : Cx} {pins : List (Addr × Obj)} {σ : L2.St} {H : Hp} {s : Shared} {a C : Addr} {d : Option Addr} {oe : Obj}
/-- an error in the hand is known from here on -/
theorem known (I : Inv X pins σ H s) (ha : s.heap.get? a = some oe) (hc : oe.cls = .ref C) (hd : oe.dict = d) (hf : ∃ vs, oe.data = .fields vs) (na : H a = none) (n0 : X.s_0.heap.get? a = none) (nl : a ≠ X.env.locals) (np : ∀ p ∈ X.pn ++ pins, p.1 ≠ a) : Inv X pins σ (upd H a (exo a C d)) s := by
  obtain ⟨vs, hf⟩ := hf
  have old : ∀ {b o}, H b = some o → upd H a (exo a C d) b = some o := fun h => by rw [upd_ne (ne_of_none h na)]; exact h
  exact { I with
    base := { I.base with
      free := fun b o e n x => by
        rw [upd_ne (fun z => by rw [z, n0] at e; cases e)]
        exact I.base.free b o e n x
      tups := fun b xs e => old (I.base.tups b xs e)
      frzs := fun b o u e => old (I.base.frzs b o u e)
      tbls := fun b ps e => by
        obtain ⟨m, q⟩ := I.base.tbls b ps e
        exact ⟨m, old q⟩ }
    free := by rw [upd_ne (Ne.symm nl)]; exact I.free
    freeC := fun x c e => by
      rw [upd_ne (fun z => ?_)]
      · exact I.freeC x c e
      · obtain ⟨v, o, ho, hv⟩ := I.cell x c e
        rw [z, ha] at ho
        cases ho
        rw [hf] at hv
        cases hv
    pin := fun p hp => by
      obtain ⟨p1, p2, p3⟩ := I.pin p hp
      exact ⟨p1, by rw [upd_ne (np p hp)]; exact p2, p3⟩
    hok := fun b o e => by
      by_cases hb : b = a
      · subst hb
        rw [upd_same] at e
        cases e
        exact exo_of ha hc hd hf
      · rw [upd_ne hb] at e
        exact (I.hok b o e).stay (fun _ _ _ q => q) (fun _ q => old q) fun _ _ q => old q }
theorem into_suite (I : Inv X pins σ H s) (a : Addr) : Inv (X.suite a (X.pn ++ pins)) [] σ H s :=
  ⟨I.ok.suite a _, I.os, I.bare, I.base, I.loc, I.cell, I.free, I.freeC, fun p hp => I.pin p (by rwa [List.append_nil] at hp), I.hok, I.len⟩
theorem outof_suite {pn' : List (Addr × Obj)} (ok : X.Ok) (I : Inv (X.suite a (X.pn ++ pins)) pn' σ H s) : Inv X pins σ H s :=
  ⟨ok, I.os, I.bare, I.base, I.loc, I.cell, I.free, I.freeC, fun p hp => I.pin p (List.mem_append_left _ hp), I.hok, I.len⟩
end
/-- what a try with one named clause wants of its body's errors: the caught one stands at slot i -/
def wTry (K : PySem.W.Frag) (c : Value) (i : Nat) (ts : TS) (Wo : WX) (D : Ends) : WX := fun u d σ H => ∃ b, PySem.W.exmOne K u c = some b ∧ (b = false → Wo u d σ H) ∧
  (b = true → ∃ C, u = .ref C ∧ ∀ a, H a = none → ts { nx := fun σ' H' => D.nx (σ'.set i none) H', rt := D.rt, bk := fun σ' H' => D.bk (σ'.set i none) H', ct := fun σ' H' => D.ct (σ'.set i none) H' } (σ.set i (some (.ref a))) (upd H a (exo a C d)))
section
variable {X : Cx} {x n : PySem.Str} {c : Value} {i : Nat} {body rest : List PySem.Stmt} {st : PySem.Stmt} {np p1 p2 : Pos} {tb : WX → TS} {ts : TS} {Wo : WX}
theorem ps_tryAs (hx : X.ex = []) (hs : X.stack = X.env :: X.outer) (hf : X.env.frame = some X.env.locals) (hN : X.N.Nodup) (hi : X.N[i]? = some n) (hl : X.env.kindOf n = some .local) (hg : Gl X x) (hm : X.mg x = some c) (hdb : (x == ("__debug__" : PySem.Str)) = false) (tk : Takes X Wo)
    (hb : ∀ (W : WX) (pn : List (Addr × Obj)) (xe : Value → Shared → Prop), Takes (X.tr pn xe) W → PassesOwn (model X.prog X.w) X.A X.env xe → PSs (X.tr pn xe) body (tb W)) (hsu : ∀ (a : Addr) (pn : List (Addr × Obj)), PSs (X.suite a pn) (st :: rest) ts) :
    PS X (.Try body [.ExceptHandler (some (.Name x np)) (some n) (st :: rest) p1] [] [] p2) (fun D σ H => tb (wTry X.K c i ts Wo D) D σ H) := by
  constructor
  intro pins s σ H D I h
  have ok := I.ok
  have frs_eq : X.A.frames = some (X.env :: X.outer) := hs ▸ ok.frames
  apply wpAny_Try_except
  have run := (hb (wTry X.K c i ts Wo D) (X.pn ++ pins) (fun e s1 => wpAny (model X.prog X.w) X.A (noteFrame e X.env) (fun _ s2 => wpAny (model X.prog X.w) X.A (setFlight e none)
    (fun _ s3 => wpAny (model X.prog X.w) X.A (handleBy e X.env [.ExceptHandler (some (.Name x np)) (some n) (st :: rest) p1]) (SP X pins D) X.xe s3) X.xe s2) X.xe s1) ?_ PassesOwn.looking).run [] s σ H D (I.toTry _) h
  · refine wpAny_mono run ?_ fun _ _ z => z
    rintro f s1 q
    cases f with
    | ret u =>
      obtain ⟨v, σ1, H1, J, r, q⟩ := q
      exact ⟨v, σ1, H1, J.ofTry ok, r, q⟩
    | next =>
      obtain ⟨σ1, H1, J, q⟩ := q
      exact wpAny_execs_nil ⟨σ1, H1, J.ofTry ok, q⟩
    | brk =>
      obtain ⟨σ1, H1, J, q⟩ := q
      exact ⟨σ1, H1, J.ofTry ok, q⟩
    | cont =>
      obtain ⟨σ1, H1, J, q⟩ := q
      exact ⟨σ1, H1, J.ofTry ok, q⟩
  · rintro u s2 ⟨a, B, sI, pins2, σ2, H2, cls, d, rfl, J0, ground, up, sky, na, os, ag, b, hb1, hno, hyes⟩
    have J : Inv X pins σ2 H2 sI := J0.ofTry ok
    rw [hs] at sky
    show wpAny (model X.prog X.w) X.A (noteFrame (.ref a) X.env) _ _ _
    refine Sky.land Zc.steady frs_eq hf sky fun h3 fly up3 => ?_
    have J3 : Inv X pins σ2 H2 { s2 with heap := h3 } := J.landed ground fly.1 (up.trans up3) os ag
    obtain ⟨o3, v3, e3, z3, f3⟩ := fly.there
    have nofr : a ∉ frs (X.env :: X.outer) := fun hm => by
      obtain ⟨_, o, e, nf⟩ := fly.2.2.1.mem hm
      rw [e3] at e
      cases e
      exact nf _ f3
    have nl : a ≠ X.env.locals := fun z => nofr (List.mem_filterMap.mpr ⟨X.env, List.mem_cons_self, by rw [hf, z]⟩)
    have notI : sI.heap.get? a = none := by
      cases e : sI.heap.get? a with
      | none => rfl
      | some o =>
        have := ground a o e (by rw [hs]; exact nofr)
        rw [fly.2.1] at this
        cases this
    have not0 : a ∉ X.ex → X.s_0.heap.get? a = none := fun hx => by
      cases e : X.s_0.heap.get? a with
      | none => rfl
      | some o =>
        obtain ⟨o', e'⟩ := J.base.there a o e hx
        rw [notI] at e'
        cases e'
    have npin : ∀ p ∈ X.pn ++ pins, p.1 ≠ a := fun p hp z => by
      have := (J.pin p hp).1
      rw [z, notI] at this
      cases this
    have S3 := into_suite J3 a
    refine wpAny_handleBy_cons (codeAny_handlers_test ?_) (by intro q; cases q)
    have look : PySem.W.Looks (model X.prog X.w) h3 (typeOf (.ref a)) cls := fun A Q E s k q => wpAny_typeOf_ref (k _ _ e3) (by rw [z3.1]; exact q)
    refine ld_glob (X := X.suite a (X.pn ++ pins)) S3 hg hm ((PySem.W.exm_one (M := model X.prog X.w) J3.kIn look hb1).here ?_) hdb
    cases b with
    | false =>
      show wpAny _ X.A (handleBy (.ref a) X.env []) _ _ _
      apply wpAny_handleBy_nil
      obtain ⟨_, _, _, o, fv, T, _, _, he, _, hd, h1, _⟩ := id fly
      have onward : wpAny (model X.prog X.w) X.A (setFlight (.ref a) X.env.frame) (fun _ s4 => wpAny (model X.prog X.w) X.A (throw (.ref a) : Sem Flow) (SP X pins D) X.xe s4) X.xe { s2 with heap := h3 } := by
        rw [hf]
        refine setFlight_upZ fly fun h4 held up4 => wpAny_throw (tk _ _ ⟨a, B, sI, pins, σ2, H2, cls, d, rfl, J, ground, (up.trans up3).trans up4, ?_, na, os, ag, hno rfl⟩)
        rw [hs]
        exact .inr (.inr held)
      unfold PySem.passOn
      refine wpAny_bind (wpAny_field he hd h1 ?_)
      rw [if_neg (show ¬((Value.ref T == Value.none) = true) from by simp)]
      first
        | exact wpAny_bind (wpAny_pure (wpAny_bind onward))
        | exact wpAny_bind onward
    | true =>
      obtain ⟨C, rfl, go⟩ := hyes rfl
      apply codeAny_handlers_suite_as
      refine lands_againZ fly fun h4 fly4 up4 => ?_
      obtain ⟨o4, v4, e4, z4, f4⟩ := fly4.there
      have J4 : Inv X pins σ2 H2 { s2 with heap := h4 } := J.landed ground fly4.1 ((up.trans up3).trans up4) os ag
      have J5 := into_suite (known J4 e4 z4.1 z4.2 ⟨v4, f4⟩ na (not0 ?_) nl npin) a
      · refine store_ok (X := X.suite a (X.pn ++ pins)) (v := .ref a) J5 hN hi (.inl hl) rfl (fun s5 S5 => ?_) (.inr hl)
        refine wpAny_mono ((hsu a (X.pn ++ pins)).run [] s5 _ _ _ S5 (go a na)) ?_ fun _ _ z => z.elim
        have leave : ∀ {σ6 : L2.St} {H6 : Hp} {s6 : Shared} {Q : Shared → Prop}, Inv (X.suite a (X.pn ++ pins)) [] σ6 H6 s6 → (∀ s7, Inv X pins (σ6.set i none) H6 s7 → Q s7) →
            wpAny (model X.prog X.w) X.A (do bindName X.env n .none; unbindBehindTheSuite X.env n p1) (fun _ s7 => Q s7) X.xe s6 := fun S6 hq => gone_ok (outof_suite ok S6) hN hi hl hq
        rintro f s6 q
        cases f with
        | ret u =>
          obtain ⟨v6, σ6, H6, S6, r6, q6⟩ := q
          exact leave S6 fun s7 J7 => ⟨_, _, _, J7, r6, q6⟩
        | next =>
          obtain ⟨σ6, H6, S6, q6⟩ := q
          exact leave S6 fun s7 J7 => ⟨_, _, J7, q6⟩
        | brk =>
          obtain ⟨σ6, H6, S6, q6⟩ := q
          exact leave S6 fun s7 J7 => ⟨_, _, J7, q6⟩
        | cont =>
          obtain ⟨σ6, H6, S6, q6⟩ := q
          exact leave S6 fun s7 J7 => ⟨_, _, J7, q6⟩
      · rw [hx]; exact List.not_mem_nil
end
end MPX
namespace MPX
open PySem PySem.Spec PyProof.Rows L2
/-! ## own classes where no repr runs around -/
theorem guards_make {A : Around} {C : Addr} {us : List Value} {kw : List (PySem.Str × Value)} (h : A.guards = some []) : (A.under (.builtin "type.__call__" ⟨.ref C :: us, kw⟩)).guards = some [] := by
  first | exact h | (simp [Around.under, Code.isGuard, guardIds, h]; done) | (simp [Around.under, h]; done)
/-- o.m(..), o's class at C -/
def tMethS (C : Addr) (m : PySem.Str) (sp : Sp) (E : L2.St → XK) (ta : TE) (t : TA) : TE := fun σ H Q => ta σ H fun x H1 => ∃ a dx fs, x = .ref a ∧ H1 a = some (.ins C dx fs) ∧ fs.lookup m = none ∧ t σ H1 fun vs H2 => sp (x :: vs) H2 Q (E σ)
/-- C(..) -/
def tMakeS (C : Addr) (sp : Sp) (E : L2.St → XK) (t : TA) : TE := fun σ H Q => t σ H fun vs H1 => ∀ x dx, H1 x = none → H1 dx = none → dx ≠ x → sp (.ref x :: vs) (upd (upd H1 dx (.own x)) x (.ins C dx [])) (fun v H2 => v = .non ∧ Q (.ref x) H2) (E σ)
/-- e.f = value, as a target -/
def gFld (K : PySem.W.Frag) (ta : TE) (f : PySem.Str) : TG := fun y σ H Q => ta σ H fun x H1 => ∃ a C dx fs, x = .ref a ∧ H1 a = some (.ins C dx fs) ∧ Cls K C ∧ NoAttr K C f ∧ fs.length < 1000 ∧ Q σ (upd H1 a (.ins C dx (putF f y fs)))
section
variable {X : Cx} {cx : CXT} {k : Nat} {f C : Addr} {fd : FuncData} {ps : List PySem.Str} {sp : Sp} {E : L2.St → XK} {x m : PySem.Str} {p pos apos : Pos} {e o : PySem.Expr} {es : List PySem.Expr} {t : TA} {ta : TE}
theorem pe_methG {pl : Sem Bool} (he : PE X o ta) (c : Cls X.K C) (hm : Meth X.K C m f) (F : FnG X.prog X.w X.K X.mg X.base cx k f fd ps sp) (hr : Room k X.A) (gd : X.A.guards = some []) (hb : Binds X.K fd ps []) (hx : ∀ σ, PassesAt cx X σ (E σ)) (ha : PA X (e :: es) t)
    (hst : starEach (e :: es) X.env = (false, eval e X.env) :: starEach es X.env) (hpl : (backTo pos (starEach es X.env)).any (·.1) = false)
    (ht : eval (.Call (.Attribute o m apos) (e :: es) [] pos) X.env = (do
      let ov ← eval o X.env
      standAt apos.atName
      let (f, first) ← holding [ov] (getMethod ov m pl)
      callWith pos f first (backTo pos (starEach (e :: es) X.env)) (backToKw pos (keywordEach [] X.env)))) : PE X (.Call (.Attribute o m apos) (e :: es) [] pos) (tMethS C m sp E ta t) := by
  constructor
  intro pins s σ H Q I h
  refine PySem.W.methodCall_KW (pl := pl) (thn (he.run pins s σ H _ I h) ?_) ht
  rintro u s1 ⟨y, H1, I1, ry, a, dx, fs, rfl, ea, l, q⟩
  cases ry
  refine getmeth_ok I1 ea c hm l (PySem.W.callWith_K (first := [.ref a]) (h₀ := X.base) I.ok.mod.kin hm.kp (thn (ha.run pos pins s1 σ H1 _ I1 q) ?_) hst hpl)
  rintro us s2 ⟨vs, H2, I2, r, q2⟩
  exact ⟨I2.kIn, runG (us := .ref a :: us) (vs := .ref a :: vs) F hr gd hb (hx σ) I2 (.cons rfl r) q2⟩
theorem pe_methG0 {pl : Sem Bool} (he : PE X o ta) (c : Cls X.K C) (hm : Meth X.K C m f) (F : FnG X.prog X.w X.K X.mg X.base cx k f fd ps sp) (hr : Room k X.A) (gd : X.A.guards = some []) (hb : Binds X.K fd ps []) (hx : ∀ σ, PassesAt cx X σ (E σ))
    (ht : eval (.Call (.Attribute o m apos) [] [] pos) X.env = (do
      let ov ← eval o X.env
      standAt apos.atName
      let (f, first) ← holding [ov] (getMethod ov m pl)
      callWith pos f first (backTo pos (starEach [] X.env)) (backToKw pos (keywordEach [] X.env)))) : PE X (.Call (.Attribute o m apos) [] [] pos) (tMethS C m sp E ta tNil) := by
  constructor
  intro pins s σ H Q I h
  refine PySem.W.methodCall_KW (pl := pl) (thn (he.run pins s σ H _ I h) ?_) ht
  rintro u s1 ⟨y, H1, I1, ry, a, dx, fs, rfl, ea, l, q⟩
  cases ry
  exact getmeth_ok I1 ea c hm l (PySem.W.callWith_K0 (first := [.ref a]) I1.kIn hm.kp (runG (us := [.ref a]) (vs := [.ref a]) F hr gd hb (hx σ) I1 (.cons rfl .nil) q))
theorem runMake {pins : List (Addr × Obj)} {σ : L2.St} {H : Hp} {s : Shared} {Q : VK} {us : List Value} {vs : List V} (M : Mk X.K C f) (F : FnG X.prog X.w X.K X.mg X.base cx k f fd ps sp) (hr : Room (k + 1) X.A) (gd : X.A.guards = some []) (hb : Binds X.K fd ps [])
    (hx : PassesAt cx X σ (E σ)) (I : Inv X pins σ H s) (r : Vals vs us)
    (h : ∀ x dx, H x = none → H dx = none → dx ≠ x → sp (.ref x :: vs) (upd (upd H dx (.own x)) x (.ins C dx [])) (fun v H2 => v = .non ∧ Q (.ref x) H2) (E σ)) : wpAny (model X.prog X.w) X.A (call (.ref C) us) (EP X pins σ Q) X.xe s := by
  have J := Inv.made (C := C) I
  have want := h (s.heap.objs.size + 1) s.heap.objs.size (I.hok.fresh (Nat.le_succ _)) (I.hok.fresh (Nat.le_refl _)) (Nat.ne_of_lt (Nat.lt_succ_self _))
  have rv : Vals (V.ref (s.heap.objs.size + 1) :: vs) (Value.ref (s.heap.objs.size + 1) :: us) := .cons rfl r
  have n : (Value.ref (s.heap.objs.size + 1) :: us).length = ps.length := rv.length.symm.trans (F.len _ _ _ _ want)
  have b := hb _ (Value.ref (s.heap.objs.size + 1) :: us) J.kIn (by rw [List.append_nil]; exact n)
  rw [List.append_nil] at b
  refine wpAny_call (make_map (f := f) I.kIn M.makes M.init (beq_iff_eq.mp M.fn) (codeAny_mono (F.run _ X.stack _ _ _ _ _ _ (E σ) (hr.make C us []) (guards_make gd) (J.env0.make C us []) b rv want) fun res s' hq => ?_))
  rcases res with er | fl
  · exact hx pins _ _ er s' J hq
  · cases fl with
    | ret u =>
      obtain ⟨v, H', J', rv', rfl, q⟩ := J.after hq
      exact ⟨rv', .ref (s.heap.objs.size + 1), H', J', rfl, q⟩
    | _ => exact False.elim hq
theorem pe_makeG (M : Mk X.K C f) (F : FnG X.prog X.w X.K X.mg X.base cx k f fd ps sp) (hr : Room (k + 1) X.A) (gd : X.A.guards = some []) (hg : Gl X x) (hm : X.mg x = some (.ref C)) (hb : Binds X.K fd ps []) (hx : ∀ σ, PassesAt cx X σ (E σ)) (ha : PA X (e :: es) t)
    (hdb : (x == ("__debug__" : PySem.Str)) = false) (he : starEach (e :: es) X.env = (false, eval e X.env) :: starEach es X.env) (hpl : (backTo pos (starEach es X.env)).any (·.1) = false) : PE X (.Call (.Name x p) (e :: es) [] pos) (tMakeS C sp E t) := ⟨fun pins s σ H Q I h =>
  wpAny_Call_Name_kw (ld_glob I hg hm (PySem.W.callWith_K (h₀ := X.base) I.ok.mod.kin M.kp (thn (ha.run pos pins s σ H _ I h) fun us s1 ⟨vs, H1, I1, r, q⟩ => ⟨I1.kIn, runMake M F hr gd hb (hx σ) I1 r q⟩) he hpl) hdb)⟩
theorem pe_makeG0 (M : Mk X.K C f) (F : FnG X.prog X.w X.K X.mg X.base cx k f fd ps sp) (hr : Room (k + 1) X.A) (gd : X.A.guards = some []) (hg : Gl X x) (hm : X.mg x = some (.ref C)) (hb : Binds X.K fd ps []) (hx : ∀ σ, PassesAt cx X σ (E σ))
    (hdb : (x == ("__debug__" : PySem.Str)) = false) : PE X (.Call (.Name x p) [] [] pos) (tMakeS C sp E tNil) := ⟨fun pins s σ H Q I h =>
  wpAny_Call_Name_kw (ld_glob I hg hm (PySem.W.callWith_K0 I.kIn M.kp (runMake (us := []) M F hr gd hb (hx σ) I .nil h)) hdb)⟩
theorem pg_fld {g : PySem.Str} (ho : PE X o ta) : PG X (.Attribute o g pos) (gFld X.K ta g) := by
  constructor
  intro pins s σ H y u Q I ry h
  rw [arm_assign_Attribute]
  refine wpAny_bind (wpAny_holding (thn (ho.run pins s σ H _ I h) ?_))
  rintro ov s1 ⟨z, H1, I1, rz, a, D, dx, fs, rfl, ea, c, n, l, q⟩
  cases rz
  first
    | exact wpAny_bind (wpAny_standAt (wpAny_bind (wpAny_holding (setattr_ok I1 ea c n l ry fun s2 I2 => wpAny_release ⟨σ, _, I2, q⟩))))
    | exact wpAny_standAt (wpAny_bind (wpAny_holding (setattr_ok I1 ea c n l ry fun s2 I2 => wpAny_release ⟨σ, _, I2, q⟩)))
    | exact wpAny_bind (wpAny_holding (setattr_ok I1 ea c n l ry fun s2 I2 => wpAny_release ⟨σ, _, I2, q⟩))
end
end MPX
namespace MPZ
open PySem
/-! ## zip(.., .., strict=True), lists and tuples -/
def sIt (t : Bool) (h : Heap) (it l : Addr) (k : Nat) : Prop := ∃ o, h.get? it = some o ∧ o.cls = .type (if t then "tuple_iterator" else "list_iterator") ∧ o.data = .fields #[.ref l, .int k 0]
def sOb (t : Bool) (h : Heap) (l : Addr) (xs : Array Value) : Prop := ∃ o, h.get? l = some o ∧ o.cls = .type (if t then "tuple" else "list") ∧ ∃ n, o.data = .seq xs n
theorem sIt.to {t : Bool} {h h' : Heap} {it l : Addr} {k : Nat} (x : sIt t h it l k) (e : ∀ o, h.get? it = some o → h'.get? it = some o) : sIt t h' it l k := let ⟨o, a, b⟩ := x; ⟨o, e o a, b⟩
theorem sOb.to {t : Bool} {h h' : Heap} {l : Addr} {xs : Array Value} (x : sOb t h l xs) (e : ∀ o, h.get? l = some o → h'.get? l = some o) : sOb t h' l xs := let ⟨o, a, b⟩ := x; ⟨o, e o a, b⟩
def sZip (h : Heap) (z TI TO : Addr) (f0 : Value) : Prop := h.get? z = some { cls := .type "zip", dict := none, data := .fields #[f0, .bool false, .bool true, .ref TI, .ref TO], slots := #[] }
section
variable {prog : Program} {w : World} {A : Around} {E : Value → Shared → Prop} {s : Shared}
theorem next_item {t : Bool} {it l : Addr} {i : Nat} {xs : Array Value} {x : Value} {Q : Value → Shared → Prop} (h1 : sIt t s.heap it l i) (h2 : sOb t s.heap l xs) (hx : xs[i]? = some x)
    (hQ : ∀ h', sIt t h' it l (i + 1) → Heap.SameBut it s.heap h' → Q x { s with heap := h' }) : wpAny (model prog w) A (Builtin.SmallTypes.nextOf (.ref it)) Q E s := by
  cases t
  · exact wpAny_nextOf_list_item (show s.heap.IsListIter it l i from h1) (show s.heap.IsList l xs from h2) hx hQ
  · exact RZ.nextOf_tuple_item (show s.heap.IsTupleIter it l i from h1) (show s.heap.IsTuple l xs from h2) hx hQ
theorem next_end {t : Bool} {it l : Addr} {i : Nat} {xs : Array Value} {Q : Value → Shared → Prop} (hh : A.handled = none) (h1 : sIt t s.heap it l i) (h2 : sOb t s.heap l xs) (hx : xs[i]? = none)
    (hE : ∀ h' e, Heap.ExtBut it s.heap h' → (∃ o, h'.get? e = some o ∧ o.cls = .type "StopIteration") → E (.ref e) { s with heap := h' }) : wpAny (model prog w) A (Builtin.SmallTypes.nextOf (.ref it)) Q E s := by
  cases t
  · exact wpAny_nextOf_list_end hh (show s.heap.IsListIter it l i from h1) (show s.heap.IsList l xs from h2) hx hE
  · exact RZ.nextOf_tuple_end hh (show s.heap.IsTupleIter it l i from h1) (show s.heap.IsTuple l xs from h2) hx hE
theorem draw_item {t : Bool} {it l : Addr} {i : Nat} {xs : Array Value} {x : Value} {Q : Option Value → Shared → Prop} (h1 : sIt t s.heap it l i) (h2 : sOb t s.heap l xs) (hx : xs[i]? = some x)
    (hQ : ∀ h', sIt t h' it l (i + 1) → Heap.SameBut it s.heap h' → Q (some x) { s with heap := h' }) : wpAny (model prog w) A (Builtin.SmallTypes.nextOrEnd (.ref it)) Q E s := by
  unfold Builtin.SmallTypes.nextOrEnd
  exact wpAny_bind (wpAny_attempt (next_item h1 h2 hx fun h' a b => wpAny_pure (hQ h' a b)))
theorem draw_end {t : Bool} {it l : Addr} {i : Nat} {xs : Array Value} {Q : Option Value → Shared → Prop} (hh : A.handled = none) (h1 : sIt t s.heap it l i) (h2 : sOb t s.heap l xs) (hx : xs[i]? = none)
    (hQ : ∀ h', Heap.ExtBut it s.heap h' → Q none { s with heap := h' }) : wpAny (model prog w) A (Builtin.SmallTypes.nextOrEnd (.ref it)) Q E s := by
  unfold Builtin.SmallTypes.nextOrEnd
  refine wpAny_bind (wpAny_attempt (next_end hh h1 h2 hx fun h' e k ⟨o, ho, hc⟩ => ?_))
  exact wpAny_bind (wpAny_isInstance (T := "StopIteration") (b := true) ⟨o, ho, hc⟩ isSubtype_stop (wpAny_pure (hQ h' k)))
theorem zs_item {t1 t2 : Bool} {z TI TO i1 i2 l1 l2 : Addr} {k : Nat} {xs ys : Array Value} {x y a b : Value} {Q : Value → Shared → Prop} (D : ZipApart z TI TO i1 i2 l1 l2)
    (hz : sZip s.heap z TI TO .none) (hTI : IsPair s.heap TI (.ref i1) (.ref i2)) (hTO : IsPair s.heap TO a b) (h1 : sIt t1 s.heap i1 l1 k) (h2 : sIt t2 s.heap i2 l2 k) (o1 : sOb t1 s.heap l1 xs) (o2 : sOb t2 s.heap l2 ys) (hx : xs[k]? = some x) (hy : ys[k]? = some y)
    (hQ : ∀ h', sZip h' z TI TO (rawInt s.heap.objs.size) → IsPair h' TO x y → sIt t1 h' i1 l1 (k + 1) → sIt t2 h' i2 l2 (k + 1) → IsPair h' s.heap.objs.size x y → h'.objs.size = s.heap.objs.size + 1 →
      (∀ c o, c ≠ z → c ≠ TO → c ≠ i1 → c ≠ i2 → s.heap.get? c = some o → h'.get? c = some o) → Q (.ref s.heap.objs.size) { s with heap := h' }) :
    wpAny (model prog w) A (Builtin.«zip.__next__» ⟨[.ref z], []⟩) (fun fin s' => ∃ v, fin = .done (.ret v) ∧ Q v s') E s := by
  have hz' : s.heap.get? z = some { cls := .type "zip", dict := none, data := .fields #[.none, .bool false, .bool true, .ref TI, .ref TO], slots := #[] } := hz
  show wpAny _ _ (field (.ref z) 2 >>= _) _ _ _
  refine wpAny_bind (wpAny_field hz' rfl (x := .bool true) rfl ?_)
  show wpAny _ _ (field (.ref z) 3 >>= _) _ _ _
  refine wpAny_bind (wpAny_field hz' rfl (x := .ref TI) rfl ?_)
  refine wpAny_bind (wpAny_seqItems hTI rfl ?_)
  show wpAny _ _ (Builtin.SmallTypes.ownedTupleIsFree (.ref z) >>= _) _ _ _
  unfold Builtin.SmallTypes.ownedTupleIsFree
  refine wpAny_bind (wpAny_bind (wpAny_field hz' rfl (x := .none) rfl (wpAny_pure ?_)))
  simp only [if_true]
  refine wpAny_bind (wpAny_rule ?_)
  refine wpAny_bind (wpAny_field hz' rfl (x := .ref TO) rfl ?_)
  refine wpAny_bind (wpAny_setField_rec hz' (by simp) fun g1 z1 s1 => ?_)
  replace z1 : sZip g1 z TI TO .ellipsis := z1
  refine wpAny_bind ?_
  simp only [List.zipIdx_cons, List.zipIdx_nil, List.forIn_cons, List.forIn_nil]
  refine wpAny_bind (wpAny_bind (wpAny_onRaise ?_))
  show wpAny _ _ (Builtin.SmallTypes.nextOrEnd (.ref i1)) _ _ _
  have e1 : ∀ {c : Addr} {o : Obj}, c ≠ z → s.heap.get? c = some o → g1.get? c = some o := fun hc e => s1.extBut _ _ hc e
  refine draw_item (h1.to fun o e => e1 D.i1z e) (o1.to fun o e => e1 D.l1z e) hx fun g2 a2 s2 => ?_
  have e2 : ∀ {c : Addr} {o : Obj}, c ≠ z → c ≠ i1 → s.heap.get? c = some o → g2.get? c = some o := fun hc hd e => s2.extBut _ _ hd (e1 hc e)
  have p2 : IsPair g2 TO a b := e2 D.TOz D.TOi1 hTO
  refine wpAny_bind (wpAny_seqItems p2 rfl ?_)
  refine wpAny_bind (wpAny_updateSeq_pair p2 fun g3 p3 s3 => ?_)
  replace p3 : IsPair g3 TO x b := p3
  refine wpAny_bind (wpAny_letGo (wpAny_pure ?_))
  have e3 : ∀ {c : Addr} {o : Obj}, c ≠ z → c ≠ i1 → c ≠ TO → s.heap.get? c = some o → g3.get? c = some o := fun hc hd hf e => s3.extBut _ _ hf (e2 hc hd e)
  refine wpAny_bind (wpAny_bind (wpAny_onRaise ?_))
  show wpAny _ _ (Builtin.SmallTypes.nextOrEnd (.ref i2)) _ _ _
  refine draw_item (h2.to fun o e => e3 D.i2z D.i12.symm D.TOi2.symm e) (o2.to fun o e => e3 D.l2z D.l2i1 D.l2TO e) hy fun g4 a4 s4 => ?_
  have p4 : IsPair g4 TO x b := s4.extBut _ _ D.TOi2 p3
  refine wpAny_bind (wpAny_seqItems p4 rfl ?_)
  refine wpAny_bind (wpAny_updateSeq_pair p4 fun g5 p5 s5 => ?_)
  replace p5 : IsPair g5 TO x y := p5
  refine wpAny_bind (wpAny_letGo (wpAny_pure (wpAny_pure ?_)))
  refine wpAny_bind (wpAny_seqItems p5 rfl ?_)
  refine wpAny_bind (wpAny_newTuple ?_)
  have hsz : g5.objs.size = s.heap.objs.size := by rw [s5.1, s4.1, s3.1, s2.1, s1.1]
  have z5 : sZip g5 z TI TO .ellipsis := s5.extBut _ _ D.TOz.symm (s4.extBut _ _ D.i2z.symm (s3.extBut _ _ D.TOz.symm (s2.extBut _ _ D.i1z.symm z1)))
  have e5 : ∀ c o, c ≠ z → c ≠ TO → c ≠ i1 → c ≠ i2 → s.heap.get? c = some o → g5.get? c = some o := fun c o c1 c2 c3 c4 e => s5.extBut _ _ c2 (s4.extBut _ _ c4 (e3 c1 c3 c2 e))
  have b1 : sIt t1 g5 i1 l1 (k + 1) := a2.to fun o e => s5.extBut _ _ D.TOi1.symm (s4.extBut _ _ D.i12 (s3.extBut _ _ D.TOi1.symm e))
  have b2 : sIt t2 g5 i2 l2 (k + 1) := a4.to fun o e => s5.extBut _ _ D.TOi2.symm e
  have zlt : z < g5.objs.size := Heap.lt_size z5
  show wpAny _ _ (Builtin.SmallTypes.ownedTupleHandOut (.ref z) (.ref g5.objs.size) >>= _) _ _ _
  unfold Builtin.SmallTypes.ownedTupleHandOut
  have z6 : (g5.push { cls := .type "tuple", data := .seq #[x, y] }).get? z = some { cls := .type "zip", dict := none, data := .fields #[.ellipsis, .bool false, .bool true, .ref TI, .ref TO], slots := #[] } := Heap.get?_push_of_some _ z5
  refine wpAny_bind (wpAny_bind (wpAny_setField_rec z6 (by simp) fun g7 z7 s7 => ?_))
  replace z7 : g7.get? z = some { cls := .type "zip", dict := none, data := .fields #[rawInt g5.objs.size, .bool false, .bool true, .ref TI, .ref TO], slots := #[] } := z7
  refine wpAny_setField_rec z7 (by simp) fun g8 z8 s8 => ?_
  replace z8 : sZip g8 z TI TO (rawInt g5.objs.size) := z8
  have up : ∀ c o, c ≠ z → g5.get? c = some o → g8.get? c = some o := fun c o c1 e => s8.extBut _ _ c1 (s7.extBut _ _ c1 (Heap.get?_push_of_some _ e))
  have t8 : IsPair g8 g5.objs.size x y := s8.extBut _ _ (Nat.ne_of_gt zlt) (s7.extBut _ _ (Nat.ne_of_gt zlt) (Heap.get?_push_size _ rfl))
  have n8 : g8.objs.size = g5.objs.size + 1 := by rw [s8.1, s7.1, Heap.size_push]
  rw [hsz] at z8 t8 n8
  refine wpAny_pure ⟨_, rfl, ?_⟩
  show Q (.ref g5.objs.size) _
  rw [hsz]
  exact hQ g8 z8 (up _ _ D.TOz p5) (b1.to fun o e => up _ o D.i1z e) (b2.to fun o e => up _ o D.i2z e) t8 n8 fun c o c1 c2 c3 c4 e => up c o c1 (e5 c o c1 c2 c3 c4 e)
theorem zs_end {t1 t2 : Bool} {z TI TO i1 i2 l1 l2 : Addr} {k : Nat} {xs ys : Array Value} {a b : Value} {Q : Fin → Shared → Prop} (hh : A.handled = none) (D : ZipApart z TI TO i1 i2 l1 l2)
    (hz : sZip s.heap z TI TO .none) (hTI : IsPair s.heap TI (.ref i1) (.ref i2)) (hTO : IsPair s.heap TO a b) (h1 : sIt t1 s.heap i1 l1 k) (h2 : sIt t2 s.heap i2 l2 k) (o1 : sOb t1 s.heap l1 xs) (o2 : sOb t2 s.heap l2 ys) (hx : xs[k]? = none) (hy : ys[k]? = none)
    (hE : ∀ h' e, (∀ c o, c ≠ z → c ≠ TO → c ≠ i1 → c ≠ i2 → s.heap.get? c = some o → h'.get? c = some o) → (∃ o, h'.get? e = some o ∧ o.cls = .type "StopIteration") → E (.ref e) { s with heap := h' }) :
    wpAny (model prog w) A (Builtin.«zip.__next__» ⟨[.ref z], []⟩) Q E s := by
  have hz' : s.heap.get? z = some { cls := .type "zip", dict := none, data := .fields #[.none, .bool false, .bool true, .ref TI, .ref TO], slots := #[] } := hz
  show wpAny _ _ (field (.ref z) 2 >>= _) _ _ _
  refine wpAny_bind (wpAny_field hz' rfl (x := .bool true) rfl ?_)
  show wpAny _ _ (field (.ref z) 3 >>= _) _ _ _
  refine wpAny_bind (wpAny_field hz' rfl (x := .ref TI) rfl ?_)
  refine wpAny_bind (wpAny_seqItems hTI rfl ?_)
  show wpAny _ _ (Builtin.SmallTypes.ownedTupleIsFree (.ref z) >>= _) _ _ _
  unfold Builtin.SmallTypes.ownedTupleIsFree
  refine wpAny_bind (wpAny_bind (wpAny_field hz' rfl (x := .none) rfl (wpAny_pure ?_)))
  simp only [if_true]
  refine wpAny_bind (wpAny_rule ?_)
  refine wpAny_bind (wpAny_field hz' rfl (x := .ref TO) rfl ?_)
  refine wpAny_bind (wpAny_setField_rec hz' (by simp) fun g1 z1 s1 => ?_)
  replace z1 : sZip g1 z TI TO .ellipsis := z1
  refine wpAny_bind ?_
  simp only [List.zipIdx_cons, List.zipIdx_nil, List.forIn_cons, List.forIn_nil]
  refine wpAny_bind (wpAny_bind (wpAny_onRaise ?_))
  show wpAny _ _ (Builtin.SmallTypes.nextOrEnd (.ref i1)) _ _ _
  have e1 : ∀ {c : Addr} {o : Obj}, c ≠ z → s.heap.get? c = some o → g1.get? c = some o := fun hc e => s1.extBut _ _ hc e
  refine draw_end hh (h1.to fun o e => e1 D.i1z e) (o1.to fun o e => e1 D.l1z e) hx fun g2 s2 => ?_
  have e2 : ∀ {c : Addr} {o : Obj}, c ≠ z → c ≠ i1 → s.heap.get? c = some o → g2.get? c = some o := fun hc hd e => s2 _ _ hd (e1 hc e)
  have z2 : g2.get? z = some { cls := .type "zip", dict := none, data := .fields #[.ellipsis, .bool false, .bool true, .ref TI, .ref TO], slots := #[] } := s2 _ _ D.i1z.symm z1
  refine wpAny_bind (wpAny_setField_rec z2 (by simp) fun g3 z3 s3 => ?_)
  refine wpAny_bind ?_
  show wpAny _ _ (((Builtin.SmallTypes.nextOrEnd (.ref i2) >>= _) >>= _) >>= _) _ _ _
  have e3 : ∀ {c : Addr} {o : Obj}, c ≠ z → c ≠ i1 → s.heap.get? c = some o → g3.get? c = some o := fun hc hd e => s3.extBut _ _ hc (e2 hc hd e)
  refine wpAny_bind (wpAny_bind (wpAny_bind (draw_end hh (h2.to fun o e => e3 D.i2z D.i12.symm e) (o2.to fun o e => e3 D.l2z D.l2i1 e) hy fun g4 s4 => ?_)))
  refine wpAny_pure ?_
  show wpAny _ _ (pure _) _ _ _
  refine wpAny_pure ?_
  refine wpAny_bind (wpAny_rule ?_)
  unfold Builtin.SmallTypes.stopIteration
  refine wpAny_bind ?_
  simp only [newExc, newTuple]
  refine wpAny_bind (wpAny_newObj_type ?_ (by size_fits))
  refine wpAny_bind (m := firstArgMember _ _) (wpAny_of_eq (a := Value.none) (by first | rfl | (simp only [firstArgMember]; rfl)) ?_)
  refine wpAny_newObj_type ?_ (by size_fits)
  simp only [raiseNew]
  refine wpAny_bind (wpAny_handled ?_)
  rw [hh]
  refine wpAny_bind (wpAny_pure (wpAny_throw (hE _ _ (fun c o c1 c2 c3 c4 e => ?_) ⟨_, Heap.get?_push_size _ rfl, rfl⟩)))
  exact Heap.get?_push_of_some _ (Heap.get?_push_of_some _ (s4 _ _ c4 (e3 c1 c3 e)))
theorem zs_next {t1 t2 : Bool} {z TI TO i1 i2 l1 l2 : Addr} {k : Nat} {xs ys : Array Value} {x y a b : Value} {Q : Option Value → Shared → Prop} (D : ZipApart z TI TO i1 i2 l1 l2)
    (hz : sZip s.heap z TI TO .none) (hTI : IsPair s.heap TI (.ref i1) (.ref i2)) (hTO : IsPair s.heap TO a b) (h1 : sIt t1 s.heap i1 l1 k) (h2 : sIt t2 s.heap i2 l2 k) (o1 : sOb t1 s.heap l1 xs) (o2 : sOb t2 s.heap l2 ys) (hx : xs[k]? = some x) (hy : ys[k]? = some y)
    (hQ : ∀ h', sZip h' z TI TO (rawInt s.heap.objs.size) → IsPair h' TO x y → sIt t1 h' i1 l1 (k + 1) → sIt t2 h' i2 l2 (k + 1) → IsPair h' s.heap.objs.size x y → h'.objs.size = s.heap.objs.size + 1 →
      (∀ c o, c ≠ z → c ≠ TO → c ≠ i1 → c ≠ i2 → s.heap.get? c = some o → h'.get? c = some o) → Q (some (.ref s.heap.objs.size)) { s with heap := h' }) : wpAny (model prog w) A (pyNext (.ref z)) Q E s := by
  have ty : s.TypeIs (.ref z) "zip" := ⟨_, hz, rfl⟩
  unfold pyNext
  refine wpAny_bind (wpAny_attempt (wpAny_callSpecial?_slot (name := Str.ofString "__next__") ty F.slot_zip_next (wpAny_call_entry F.slot_zip_next ty F.entry_zip_next (zs_item D hz hTI hTO h1 h2 o1 o2 hx hy ?_) (F.args_zip_next_1 _))))
  exact fun h' b1 b2 b3 b4 b5 b6 b7 => wpAny_pure (hQ h' b1 b2 b3 b4 b5 b6 b7)
theorem zs_stop {t1 t2 : Bool} {z TI TO i1 i2 l1 l2 : Addr} {k : Nat} {xs ys : Array Value} {a b : Value} {Q : Option Value → Shared → Prop} (hh : A.handled = none) (D : ZipApart z TI TO i1 i2 l1 l2)
    (hz : sZip s.heap z TI TO .none) (hTI : IsPair s.heap TI (.ref i1) (.ref i2)) (hTO : IsPair s.heap TO a b) (h1 : sIt t1 s.heap i1 l1 k) (h2 : sIt t2 s.heap i2 l2 k) (o1 : sOb t1 s.heap l1 xs) (o2 : sOb t2 s.heap l2 ys) (hx : xs[k]? = none) (hy : ys[k]? = none)
    (hQ : ∀ h', (∀ c o, c ≠ z → c ≠ TO → c ≠ i1 → c ≠ i2 → s.heap.get? c = some o → h'.get? c = some o) → Q none { s with heap := h' }) : wpAny (model prog w) A (pyNext (.ref z)) Q E s := by
  have ty : s.TypeIs (.ref z) "zip" := ⟨_, hz, rfl⟩
  unfold pyNext
  refine wpAny_bind (wpAny_attempt (wpAny_callSpecial?_slot (name := Str.ofString "__next__") ty F.slot_zip_next (wpAny_call_entry F.slot_zip_next ty F.entry_zip_next (zs_end (A := A.in1) hh D hz hTI hTO h1 h2 o1 o2 hx hy ?_) (F.args_zip_next_1 _))))
  rintro h' e hk ⟨o, ho, hc⟩
  exact wpAny_bind (wpAny_isInstance (T := "StopIteration") (b := true) ⟨o, ho, hc⟩ isSubtype_stop (wpAny_pure (hQ _ hk)))
theorem zs_go {elts : List Expr} {x1} {pos : Pos} {z TI TO T : Addr} {Q : Unit → Shared → Prop} (hz : sZip s.heap z TI TO (rawInt T)) (hQ : ∀ h', sZip h' z TI TO .none → Heap.SameBut z s.heap h' → Q () { s with heap := h' }) :
    wpAny (model prog w) A (letOwnedTupleGo (.Tuple elts x1 pos) (.ref z) (.ref T)) Q E s := by
  have hz' : s.heap.get? z = some { cls := .type "zip", dict := none, data := .fields #[rawInt T, .bool false, .bool true, .ref TI, .ref TO], slots := #[] } := hz
  unfold letOwnedTupleGo
  refine wpAny_bind (wpAny_load hz' ?_)
  show wpAny _ _ (if (["enumerate", "zip", "dict_itemiterator", "dict_reverseitemiterator", "odict_iterator", "itertools.zip_longest", "itertools.pairwise"].contains "zip" && (#[rawInt T, .bool false, .bool true, .ref TI, .ref TO] : Array Value)[0]? == some (rawInt T)) = true then _ else _) Q E s
  rw [if_pos (by simp)]
  refine wpAny_bind (wpAny_rule ?_)
  exact wpAny_setField_rec hz' (by simp) fun h' z' s' => hQ h' z' s'
theorem zs_iter {z TI TO : Addr} {f0 : Value} {Q : Value → Shared → Prop} (hz : sZip s.heap z TI TO f0) (h : Q (.ref z) s) : wpAny (model prog w) A (pyIter (.ref z)) Q E s := by
  have ty : s.TypeIs (.ref z) "zip" := ⟨_, hz, rfl⟩
  refine wpAny_pyIter_slot ty F.slot_zip_iter (wpAny_call_entry F.slot_zip_iter ty F.entry_zip_iter ?_ (F.args_zip_iter_1 _))
  exact wpAny_pure ⟨_, rfl, "zip", _, ty, F.slot_zip_next.lookup, h⟩
end
def oIt (t : Bool) (l : Addr) : Obj := { cls := .type (if t then "tuple_iterator" else "list_iterator"), data := .fields #[.ref l, .int 0 0] }
section
variable (t1 t2 : Bool) (h : Heap) (l1 l2 : Addr)
abbrev zA : Heap := h.push (oIt t1 l1)
abbrev zB : Heap := (zA t1 h l1).push (oIt t2 l2)
abbrev zC : Heap := (zB t1 t2 h l1 l2).push { cls := .type "tuple", data := .seq #[.ref h.objs.size, .ref (zA t1 h l1).objs.size] }
abbrev zD : Heap := (zC t1 t2 h l1 l2).push { cls := .type "tuple", data := .seq #[.none, .none] }
abbrev zE : Heap := (zD t1 t2 h l1 l2).push { cls := .type "zip", data := .fields #[.none, .bool false, .bool true, .ref (zB t1 t2 h l1 l2).objs.size, .ref (zC t1 t2 h l1 l2).objs.size] }
end
theorem sOb.iter {prog : Program} {w : World} {A : Around} {E : Value → Shared → Prop} {s : Shared} {t : Bool} {l : Addr} {xs : Array Value} {Q : Value → Shared → Prop} (h : sOb t s.heap l xs) (q : Q (.ref s.heap.objs.size) { s with heap := s.heap.push (oIt t l) }) : wpAny (model prog w) A (pyIter (.ref l)) Q E s := by
  cases t
  · exact wpAny_pyIter_list (show s.heap.IsList l xs from h) q
  · exact wpAny_pyIter_tuple (show s.heap.IsTuple l xs from h) q
theorem meets_new (t1 t2 : Bool) (l1 l2 : Addr) (xs ys : Array Value) :
    Meets (Builtin.«zip.__new__» ⟨[.type "zip", .ref l1, .ref l2], [(Str.ofString "strict", .bool true)]⟩) (fun _ R s => sOb t1 s.heap l1 xs ∧ sOb t2 s.heap l2 ys ∧ R (.ok (.ret (.ref (zD t1 t2 s.heap l1 l2).objs.size))) { s with heap := zE t1 t2 s.heap l1 l2 }) :=
  .of_wp fun prog w A R s h => by
    obtain ⟨hp, g, d, tk, os⟩ := s
    obtain ⟨h1, h2, h⟩ := h
    have hsub := sub_zip
    have h2' : sOb t2 (hp.push (oIt t1 l1)) l2 ys := sOb.to h2 fun o e => Heap.get?_push_of_some _ e
    have e1 : (Str.ofString "strict" != ("strict" : Str)) = false := by decide +kernel
    have q1 : ∀ {A' : Around} {E Q : Value → Shared → Prop}, Q (.ref hp.objs.size) ⟨hp.push (oIt t1 l1), g, d, tk, os⟩ → wpAny (model prog w) A' (pyIter (.ref l1)) Q E ⟨hp, g, d, tk, os⟩ := fun q => sOb.iter (s := ⟨hp, g, d, tk, os⟩) h1 q
    have q2 : ∀ {A' : Around} {E Q : Value → Shared → Prop}, Q (.ref (hp.push (oIt t1 l1)).objs.size) ⟨(hp.push (oIt t1 l1)).push (oIt t2 l2), g, d, tk, os⟩ → wpAny (model prog w) A' (pyIter (.ref l2)) Q E ⟨hp.push (oIt t1 l1), g, d, tk, os⟩ := fun q => sOb.iter (s := ⟨hp.push (oIt t1 l1), g, d, tk, os⟩) h2' q
    wp_walk using q1, q2
    exact ⟨_, rfl, h⟩
theorem typeCall_zs (a b v : Value) : checkTypeCall "zip" ⟨[a, b], [(Str.ofString "strict", v)]⟩ = pure () := by kernel_rfl
theorem newCall_zs (a b v : Value) : checkBuiltinCall "zip.__new__" ⟨[.type "zip", a, b], [(Str.ofString "strict", v)]⟩ = pure () := by kernel_rfl
theorem args_init_zs (o a b v : Value) : argsOk "object.__init__" ⟨[o, a, b], [(Str.ofString "strict", v)]⟩ := by unfold argsOk; kernel_rfl
theorem call_zs {prog : Program} {w : World} {A : Around} {E : Value → Shared → Prop} {s : Shared} {t1 t2 : Bool} {l1 l2 : Addr} {xs ys : Array Value} {Q : Value → Shared → Prop} (h1 : sOb t1 s.heap l1 xs) (h2 : sOb t2 s.heap l2 ys)
    (h : ∀ h', sZip h' (s.heap.objs.size + 4) (s.heap.objs.size + 2) (s.heap.objs.size + 3) .none → IsPair h' (s.heap.objs.size + 2) (.ref s.heap.objs.size) (.ref (s.heap.objs.size + 1)) → IsPair h' (s.heap.objs.size + 3) .none .none →
      sIt t1 h' s.heap.objs.size l1 0 → sIt t2 h' (s.heap.objs.size + 1) l2 0 → (∀ c o, s.heap.get? c = some o → h'.get? c = some o) → Q (.ref (s.heap.objs.size + 4)) { s with heap := h' }) :
    wpAny (model prog w) A (call (.type "zip") [.ref l1, .ref l2] [(Str.ofString "strict", .bool true)]) Q E s := by
  refine callType_newKw F.called_zip (by decide) (typeCall_zs _ _ _) (newCall_zs _ _ _) (fun o => args_init_zs o _ _ _) F.entry_zip_new (meets_new t1 t2 l1 l2 xs ys) ⟨h1, h2, ?_⟩
  have nA : (zA t1 s.heap l1).objs.size = s.heap.objs.size + 1 := Heap.size_push ..
  have nB : (zB t1 t2 s.heap l1 l2).objs.size = s.heap.objs.size + 2 := (Heap.size_push ..).trans (by rw [nA])
  have nC : (zC t1 t2 s.heap l1 l2).objs.size = s.heap.objs.size + 3 := (Heap.size_push ..).trans (by rw [nB])
  have nD : (zD t1 t2 s.heap l1 l2).objs.size = s.heap.objs.size + 4 := (Heap.size_push ..).trans (by rw [nC])
  have gE : (zE t1 t2 s.heap l1 l2).get? (zD t1 t2 s.heap l1 l2).objs.size = some _ := Heap.get?_push_size _ rfl
  have gD : (zE t1 t2 s.heap l1 l2).get? (zC t1 t2 s.heap l1 l2).objs.size = some _ := Heap.get?_push_of_some _ (Heap.get?_push_size _ rfl)
  have gC : (zE t1 t2 s.heap l1 l2).get? (zB t1 t2 s.heap l1 l2).objs.size = some _ := Heap.get?_push_of_some _ (Heap.get?_push_of_some _ (Heap.get?_push_size _ rfl))
  have gB : (zE t1 t2 s.heap l1 l2).get? (zA t1 s.heap l1).objs.size = some (oIt t2 l2) := Heap.get?_push_of_some _ (Heap.get?_push_of_some _ (Heap.get?_push_of_some _ (Heap.get?_push_size _ (by cases t2 <;> rfl))))
  have gA : (zE t1 t2 s.heap l1 l2).get? s.heap.objs.size = some (oIt t1 l1) := Heap.get?_push_of_some _ (Heap.get?_push_of_some _ (Heap.get?_push_of_some _ (Heap.get?_push_of_some _ (Heap.get?_push_size _ (by cases t1 <;> rfl)))))
  show _ ∧ _
  rw [nB, nC, nD] at gE
  rw [nA, nB] at gC
  rw [nC] at gD
  rw [nA] at gB
  rw [nD]
  exact ⟨⟨_, gE, rfl⟩, h _ gE gC gD ⟨_, gA, rfl, rfl⟩ ⟨_, gB, rfl, rfl⟩ fun c o x => Heap.get?_push_of_some _ (Heap.get?_push_of_some _ (Heap.get?_push_of_some _ (Heap.get?_push_of_some _ (Heap.get?_push_of_some _ x))))⟩
end MPZ
namespace MPZ
open PySem PySem.Spec PyProof.Rows L2
def sqV (K : PySem.W.Frag) (t : Bool) (H : Hp) (a : Addr) (xs : List V) : Prop := if t then SqT K H a xs else SqL K H a xs
/-- two lists or tuples of one length, as they stand at each turn, their items in new pairs -/
def Itzs (K : PySem.W.Frag) (t1 t2 : Bool) (a b : Addr) : It :=
  ⟨fun i H => ∃ (xs ys : List V) (x y : V), sqV K t1 H a xs ∧ sqV K t2 H b ys ∧ xs[i]? = some x ∧ ys[i]? = some y,
    fun i H v H' => ∃ T x y, v = .ref T ∧ H T = none ∧ H' = upd H T (.tup [x, y]) ∧ (∀ xs, sqV K t1 H a xs → xs[i]? = some x) ∧ ∀ ys, sqV K t2 H b ys → ys[i]? = some y,
    fun i H => ∃ xs ys : List V, sqV K t1 H a xs ∧ sqV K t2 H b ys ∧ xs.length ≤ i ∧ ys.length ≤ i⟩
section
variable {X : Cx} {pins : List (Addr × Obj)} {σ : L2.St} {H : Hp} {s : Shared} {t : Bool} {a : Addr} {xs ys : List V}
theorem sq_ob (I : Inv X pins σ H s) (q : sqV X.K t H a xs) : ∃ its, Vals xs its ∧ sOb t s.heap a its.toArray ∧ a < s.heap.objs.size := by
  cases t
  · obtain ⟨its, r, p, _⟩ := I.list (show SqL X.K H a xs from q)
    exact ⟨its, r, p.isList, p.lt⟩
  · obtain ⟨its, r, p, _⟩ := I.tuple (show SqT X.K H a xs from q)
    obtain ⟨o, ho, _⟩ := id p
    exact ⟨its, r, p, Heap.lt_size ho⟩
theorem sq_inj (I : Inv X pins σ H s) (q : sqV X.K t H a xs) (q' : sqV X.K t H a ys) : xs = ys := by
  cases t
  · exact I.list_inj q q'
  · exact I.tuple_inj q q'
end
theorem turn_zs {P : Program} {w : World} {K : PySem.W.Frag} {elts : List Expr} {kk : Nat} {tpos : Pos} {t1 t2 : Bool} {a b z TI TO i1 i2 : Addr} (D : ZipApart z TI TO i1 i2 a b) :
    Turn P w K (.Tuple elts kk tpos) (Itzs K t1 t2 a b) [z, TI, TO, i1, i2] z (fun i h => sZip h z TI TO .none ∧ IsPair h TI (.ref i1) (.ref i2) ∧ (∃ x y, IsPair h TO x y) ∧ sIt t1 h i1 a i ∧ sIt t2 h i2 b i) where
  mem := List.mem_cons_self
  obj := by
    rintro i h ⟨hz, hTI, ⟨x, y, hTO⟩, ⟨p1, e1, _, d1⟩, ⟨p2, e2, _, d2⟩⟩ c hc
    simp only [List.mem_cons, List.not_mem_nil, or_false] at hc
    rcases hc with rfl | rfl | rfl | rfl | rfl
    · exact ⟨_, hz, fun v q => nomatch q⟩
    · exact ⟨_, hTI, fun v q => nomatch q⟩
    · exact ⟨_, hTO, fun v q => nomatch q⟩
    · exact ⟨p1, e1, fun v q => by rw [d1] at q; cases q⟩
    · exact ⟨p2, e2, fun v q => by rw [d2] at q; cases q⟩
  keep := by
    rintro i h h' ⟨hz, hTI, ⟨x, y, hTO⟩, h1, h2⟩ k
    exact ⟨k z (by simp) _ hz, k TI (by simp) _ hTI, ⟨x, y, k TO (by simp) _ hTO⟩, h1.to fun o q => k i1 (by simp) o q, h2.to fun o q => k i2 (by simp) o q⟩
  item := by
    rintro X rfl rfl rfl hc i pins s σ H E I hf ⟨hz, hTI, ⟨x0, y0, hTO⟩, h1, h2⟩ ⟨xs, ys, x, y, qx, qy, hx, hy⟩
    obtain ⟨is1, r1, b1, _⟩ := sq_ob I qx
    obtain ⟨is2, r2, b2, _⟩ := sq_ob I qy
    obtain ⟨u, hu, ru⟩ := r1.get hx
    obtain ⟨u2, hu2, ru2⟩ := r2.get hy
    have zl : z < s.heap.objs.size := Heap.lt_size hz
    refine zs_next D hz hTI hTO h1 h2 b1 b2 (x := u) (y := u2) (by simpa using hu) (by simpa using hu2) fun h' z' TO' h1' h2' hT _ hk => ⟨_, rfl, zs_go (s := { s with heap := h' }) z' fun h2 z2 sb => ?_⟩
    have hT2 : h2.get? s.heap.objs.size = some { cls := .type "tuple", data := .seq #[u, u2] } := (sb.2 _ (Nat.ne_of_gt zl)).trans hT
    have new : ObjOk X.prog X.w (upd H s.heap.objs.size (.tup [x, y])) h2 s.heap.objs.size (.tup [x, y]) := ⟨(by decide : 2 ≤ sizeLine), [u, u2], .cons ru (.cons ru2 .nil), ⟨_, hT2, rfl, _, rfl⟩⟩
    have far : ∀ c ∉ [z, TI, TO, i1, i2], ∀ o, s.heap.get? c = some o → h2.get? c = some o := fun c hb o q => by
      simp only [List.mem_cons, List.not_mem_nil, or_false, not_or] at hb
      exact (sb.2 c hb.1).trans (hk c o hb.1 hb.2.2.1 hb.2.2.2.1 hb.2.2.2.2 q)
    have J : Inv X pins σ (upd H s.heap.objs.size (.tup [x, y])) { s with heap := h2 } := I.turnedNew (t' := s.toks) (ch := [z, TI, TO, i1, i2]) (fun c o hb q => far c hb o q) hf (Nat.le_refl _) new
    refine ⟨.ref s.heap.objs.size, _, J, rfl, ⟨_, x, y, rfl, I.hok.fresh (Nat.le_refl _), rfl, fun l hl => by rw [sq_inj I hl qx]; exact hx, fun l hl => by rw [sq_inj I hl qy]; exact hy⟩, ⟨z2, ?_, ⟨u, u2, ?_⟩, ?_, ?_⟩, fun c hcm => ?_⟩
    · exact (sb.2 _ D.TIz).trans (hk _ _ D.TIz D.TITO D.TIi1 D.TIi2 hTI)
    · exact (sb.2 _ D.TOz).trans TO'
    · exact h1'.to fun o q => (sb.2 _ D.i1z).trans q
    · exact h2'.to fun o q => (sb.2 _ D.i2z).trans q
    · have lt : c < s.heap.objs.size := by
        have := (hf c hcm)
        simp only [List.mem_cons, List.not_mem_nil, or_false] at hcm
        rcases hcm with rfl | rfl | rfl | rfl | rfl
        · exact zl
        · exact Heap.lt_size hTI
        · exact Heap.lt_size hTO
        · obtain ⟨_, e, _⟩ := h1; exact Heap.lt_size e
        · obtain ⟨_, e, _⟩ := h2; exact Heap.lt_size e
      rw [upd_ne (Nat.ne_of_lt lt)]
      exact (hf c hcm).1
  done := by
    rintro X rfl rfl rfl hc i pins s σ H E I hf ⟨hz, hTI, ⟨x0, y0, hTO⟩, h1, h2⟩ ⟨xs, ys, qx, qy, ex, ey⟩
    obtain ⟨is1, r1, b1, _⟩ := sq_ob I qx
    obtain ⟨is2, r2, b2, _⟩ := sq_ob I qy
    have n1 := r1.length
    have n2 := r2.length
    refine zs_stop (I.ok.hd hc) D hz hTI hTO h1 h2 b1 b2 (by simp; omega) (by simp; omega) fun h' hk => ⟨rfl, I.turnedL (t' := s.toks) (ch := [z, TI, TO, i1, i2]) (fun c o hb q => ?_) hf⟩
    simp only [List.mem_cons, List.not_mem_nil, or_false, not_or] at hb
    exact hk c o hb.1 hb.2.2.1 hb.2.2.2.1 hb.2.2.2.2 q
  self := fun A i s Q E st h => zs_iter st.1 h
theorem callTyK {M : Model} {A : Around} {E : Value → Shared → Prop} {s : Shared} {env : Env} {pos : Pos} {ty : String} {e : Expr} {es : List Expr} {ks : List Keyword} {Q : Value → Shared → Prop} (hp : (backTo pos (starEach (e :: es) env)).any (·.1) = false) (hn : (backToKw pos (keywordEach ks env)).any (·.1.isNone) = false)
    (ha : (backToKw pos (keywordEach ks env)).all (·.1.isSome) = true) (he : starEach (e :: es) env = (false, eval e env) :: starEach es env)
    (h : wpAny M A (spliced (backTo pos (starEach (e :: es) env))) (fun vs s1 => wpAny M A (evalAll ((backToKw pos (keywordEach ks env)).map (·.2))) (fun ws s2 => wpAny M A (call (.type ty) vs (((backToKw pos (keywordEach ks env)).filterMap (·.1)).zip ws)) Q E s2) E s1) E s) :
    wpAny M A (callWith pos (.type ty) [] (backTo pos (starEach (e :: es) env)) (backToKw pos (keywordEach ks env))) Q E s := by
  have args : wpAny M A (evalArgs (.type ty) true (backTo pos (starEach (e :: es) env)) (backToKw pos (keywordEach ks env))) (fun a s1 => wpAny M A (call (.type ty) ([] ++ a.pos) a.kw) Q E s1) E s := by
    rw [he] at h ⊢
    exact evalArgs_kw ha h
  unfold callWith
  refine wpAny_bind (wpAny_holding (wpAny_mono args (fun a s1 h1 => wpAny_bind (wpAny_standAt ?_)) fun _ _ z => z))
  simp only [hp, hn, Bool.or_false]
  exact wpAny_bind (wpAny_pure (wpAny_bind (wpAny_mono h1 (fun r s2 hr => wpAny_bind (wpAny_holding (wpAny_point (wpAny_pure hr)))) fun _ _ z => z)))
def iZipS (K : PySem.W.Frag) (ta : TA) : TI := fun σ H R => ta σ H fun vs H1 => ∃ t1 t2 a b xs ys, vs = [.ref a, .ref b] ∧ sqV K t1 H1 a xs ∧ sqV K t2 H1 b ys ∧ R (Itzs K t1 t2 a b) H1
theorem pi_zipS {X : Cx} {e e2 : Expr} {ta : TA} {p pos tpos p1 p2 : Pos} {elts : List Expr} {kk c : Nat} (hg : Gl X "zip") (hm : X.mg "zip" = none) (ha : PA X [e, e2] ta) (hs : starEach [e, e2] X.env = (false, eval e X.env) :: starEach [e2] X.env) (hpl : (backTo pos (starEach [e2] X.env)).any (·.1) = false) :
    PI X (.Tuple elts kk tpos) (.Call (.Name "zip" p) [e, e2] [⟨some "strict", .Constant (.bool true) c p1, p2⟩] pos) (iZipS X.K ta) := by
  constructor
  intro pins s σ H R I h
  refine wpAny_Call_Name_kw (ld_blt I hg hm PyProof.Rows.boot_zip ?_)
  refine callTyK (by rw [hs]; show (false || (backTo pos (starEach [e2] X.env)).any (·.1)) = false; rw [hpl]; rfl) rfl rfl hs (thn (ha.run pos pins s σ H _ I h) ?_)
  rintro us s1 ⟨vs, H1, I1, r1, t1, t2, a, b, xs, ys, rfl, qx, qy, q⟩
  cases r1 with
  | cons r rr =>
    cases rr with
    | cons r' rr =>
      cases rr
      cases r
      cases r'
      refine kws_cons (wpAny_of_eq (a := Value.bool true) rfl (kws_nil ?_))
      obtain ⟨is1, v1, b1, l1⟩ := sq_ob I1 qx
      obtain ⟨is2, v2, b2, l2⟩ := sq_ob I1 qy
      refine call_zs b1 b2 fun h' hz hTI hTO h1 h2 hk => zs_iter hz ?_
      have J : Inv X pins σ H1 { s1 with heap := h' } := I1.kept (t' := s1.toks) hk
      refine ⟨s1.heap.objs.size + 4, [s1.heap.objs.size + 4, s1.heap.objs.size + 2, s1.heap.objs.size + 3, s1.heap.objs.size, s1.heap.objs.size + 1], _, _, H1, rfl, J, turn_zs (PySem.W.ktu_apart s1.heap.objs.size a b l1 l2), ⟨hz, hTI, ⟨_, _, hTO⟩, h1, h2⟩, fun c hc => ?_, q⟩
      have hle : s1.heap.objs.size ≤ c := by
        simp only [List.mem_cons, List.not_mem_nil, or_false] at hc
        rcases hc with rfl | rfl | rfl | rfl | rfl
        · exact Nat.le_add_right _ _
        · exact Nat.le_add_right _ _
        · exact Nat.le_add_right _ _
        · exact Nat.le_refl _
        · exact Nat.le_add_right _ _
      exact I1.fpOk hle (I1.hok.fresh hle)
end MPZ
namespace MP
open PySem L2

/-! ## the small language -/
inductive Cst where | non | bl (b : Bool) | int (i : Int) | str (x : Str)
  deriving DecidableEq
def Cst.v : Cst → V | .non => .non | .bl b => .bl b | .int i => .int i | .str x => .str x
inductive Op2 where | add | sub | mul | fdiv | mod | pow | eq | ne | lt | le | gt | ge | inn | nin | is_ | isn
  deriving DecidableEq
/-- built-in functions and types called by name -/
inductive Bi where | len | isi | max2 | sum | sorted | int | list | tuple | repr | set | min1 | str | dict
  deriving DecidableEq
inductive Mt where | append | pop0 | popAt | extend | index | get1 | get2
  deriving DecidableEq
/-- what a for or a comprehension walks -/
inductive IK where | list | tup | range1 | range2 | enum | zip | items | vals | zips
  deriving DecidableEq
/-- forms of one part -/
inductive U1 where | rev | lset | sset | lrng
  deriving DecidableEq
inductive MT where | nm (i : Nat) | tp (is : List Nat)
mutual
inductive ME where
  | var (i : Nat) | cst (c : Cst) | glb (i : Nat) | ty (T : String)
  | op (o : Op2) (m : Bool) (a b : ME) | neg (a : ME) | chain (o o2 : Op2) (a b c : ME)
  | and (a b : ME) | or (a b : ME) | not (a : ME) | ife (c a b : ME)
  | tup (es : MEs) | lst (m : Bool) (es : MEs)
  | ix (a b : ME) | sl (a : ME) (lo hi : MO)
  | bi (b : Bi) (m : Bool) (as : MEs) | mt (k : Mt) (o : ME) (as : MEs) | bits (a : ME)
  | call (f : Nat) (as : MEs)
  | mk (c : Nat) (as : MEs) (kw : Bool) | val (a : ME) | eqX (a b : ME)
  | comp (m : Bool) (elt : ME) (tg : MT) (k : IK) (src : MEs) (cond : MO) (own : List (Str × Nat))
  | gin (neg : Bool) (a : ME) (i : Nat) | gix (i : Nat) (a : ME) | new (c f : Nat) (as : MEs) | meth (c f : Nat) (m : Str) (o : ME) (as : MEs) | fld (c : Nat) (x : Str) (o : ME)
  | bad | un (u : U1) (m : Bool) (a : ME) | dnew (t : Bool) | dcomp (key elt : ME) (tg : MT) (k : IK) (src : MEs) (cond : MO) (own : List (Str × Nat))
inductive MEs where | nil | cons (e : ME) (r : MEs) | star (e : ME) (r : MEs)
inductive MO where | none | some (e : ME)
end

/-! ## the look at the text -/
def nmOk (N : List Str) (sc : Scope) (i : Nat) (x : Str) : Bool :=
  decide (N[i]? = some x) && (match sc.names.lookup x with | some .local => true | some .cell => true | some .free => true | _ => false) && !(x == ("__debug__" : Str)) && !(x == ("__classdict__" : Str))
def glOk (sc : Scope) (x : Str) : Bool := decide (sc.names.lookup x = some .globalImplicit) && !(x == ("__debug__" : Str)) && !(x == ("__name__" : Str))
def Op2.bin : Op2 → Option Operator
  | .add => some .Add | .sub => some .Sub | .mul => some .Mult | .fdiv => some .FloorDiv | .mod => some .Mod | .pow => some .Pow | _ => none
def Op2.cmp : Op2 → Option CmpOp
  | .eq => some .Eq | .ne => some .NotEq | .lt => some .Lt | .le => some .LtE | .gt => some .Gt | .ge => some .GtE | .inn => some .In | .nin => some .NotIn | .is_ => some .Is | .isn => some .IsNot | _ => none
def Bi.name : Bi → Str
  | .len => "len" | .isi => "isinstance" | .max2 => "max" | .sum => "sum" | .sorted => "sorted" | .int => "int" | .list => "list" | .tuple => "tuple" | .repr => "repr" | .set => "set" | .min1 => "min" | .str => "str" | .dict => "dict"
def Bi.isTy : Bi → Option String
  | .int => some "int" | .list => some "list" | .tuple => some "tuple" | .set => some "set" | .str => some "str" | .dict => some "dict" | _ => none
def Bi.bid : Bi → String
  | .len => "len" | .isi => "isinstance" | .max2 => "max" | .sum => "sum" | .sorted => "sorted" | .repr => "repr" | .min1 => "min" | _ => ""
def Mt.ty : Mt → String | .get1 => "dict" | .get2 => "dict" | _ => "list"
def Mt.name : Mt → Str | .append => "append" | .pop0 => "pop" | .popAt => "pop" | .extend => "extend" | .index => "index" | .get1 => "get" | .get2 => "get"
def MEs.plain : MEs → Bool | .nil => true | .cons _ r => r.plain | .star _ _ => false
def plainBase : PySem.Expr → Bool | .Call (.Name x _) [] [] _ => x != ("super" : Str) | _ => true
def isSet : PySem.Expr → Bool | .Set .. => true | _ => false
/-- the names of functions and constants of the module -/
structure Tab where
  fns : List (Option Str)
  glbs : List Str
  cls : List Str
  /-- dicts of the module with texts as keys; own classes that are no errors; each method's class and name; each class's fields -/
  kds : List Str
  kls : List Str
  mths : List (Option (Nat × Str))
  fds : List (Nat × Str)
  /-- within an except suite -/
  hot : Bool
def IK.lock : IK → Bool | .items => true | .vals => true | _ => false
def cstOk : Cst → Const → Bool
  | .non, .none => true | .bl b, .bool c => b == c | .int i, .int j => decide (i = j) | .str x, .str y => decide (x = y) | _, _ => false
def tgOk (N : List Str) (sc : Scope) : MT → PySem.Expr → Bool
  | .nm i, .Name x _ => decide (N[i]? = some x) && (match sc.names.lookup x with | some .local => true | some .cell => true | _ => false)
  | .tp is, .Tuple es _ _ => go is es
  | _, _ => false
where go : List Nat → List PySem.Expr → Bool
  | [], [] => true
  | i :: is, .Name x _ :: es => (decide (N[i]? = some x) && (match sc.names.lookup x with | some .local => true | some .cell => true | _ => false)) && go is es
  | _, _ => false
/-- within a comprehension: local names alone -/
def tgLoc (sc : Scope) : MT → PySem.Expr → Bool
  | .nm _, .Name x _ => decide (sc.names.lookup x = some .local)
  | .tp _, .Tuple es _ _ => es.all fun | .Name x _ => decide (sc.names.lookup x = some .local) | _ => false
  | _, _ => false
def tgTup : IK → PySem.Expr → Bool
  | .enum, .Tuple .. => true | .zip, .Tuple .. => true | .zips, .Tuple .. => true | .items, .Tuple .. => true | .enum, _ => false | .zip, _ => false | .zips, _ => false | .items, _ => false | _, _ => true
/-- the part of a form of one part -/
def u1E (sc : Scope) : U1 → PySem.Expr → Option PySem.Expr
  | .rev, .Subscript l (.Slice none none (some (.UnaryOp .USub (.Constant (.int 1) _ _) _)) _) _ => some l
  | .lset, .Call (.Name x _) [.Call (.Name y _) [a] [] _] [] _ => if x = "len" ∧ y = "set" ∧ glOk sc x = true ∧ glOk sc y = true then some a else none
  | .sset, .Call (.Name x _) [.Call (.Name y _) [a] [] _] [] _ => if x = "sorted" ∧ y = "set" ∧ glOk sc x = true ∧ glOk sc y = true then some a else none
  | .lrng, .Call (.Name x _) [.Call (.Name y _) [a] [] _] [] _ => if x = "list" ∧ y = "range" ∧ glOk sc x = true ∧ glOk sc y = true then some a else none
  | _, _ => none
def badOk : PySem.Expr → Bool | .Starred .. => false | .Slice .. => false | .Set .. => false | _ => true
def tyNames : List String := ["int", "bool", "str", "list", "tuple", "dict", "ValueError"]
mutual
def chkE (T : Tab) (N : List Str) (sc : Scope) : ME → PySem.Expr → Bool
  | .var i, .Name x _ => nmOk N sc i x
  | .cst c, .Constant k _ _ => cstOk c k
  | .glb i, .Name x _ => glOk sc x && decide (T.glbs[i]? = some x)
  | .ty t, .Name x _ => glOk sc x && decide (x = Str.ofString t) && decide (t ∈ tyNames)
  | .op o _ a b, .BinOp l p r _ => decide (o.bin = some p) && chkE T N sc a l && chkE T N sc b r
  | .op o _ a b, .Compare l [p] [r] _ => decide (o.cmp = some p) && chkE T N sc a l && chkE T N sc b r
  | .chain o o2 a b c, .Compare l [p, p2] [r, t] _ => decide (o.cmp = some p) && decide (o2.cmp = some p2) && chkE T N sc a l && chkE T N sc b r && chkE T N sc c t
  | .neg a, .UnaryOp .USub e _ => chkE T N sc a e
  | .not a, .UnaryOp .Not e _ => chkE T N sc a e
  | .and a b, .BoolOp .And [l, r] _ => chkE T N sc a l && chkE T N sc b r
  | .and a b, .BoolOp .And (l :: r :: r2 :: rest) pos => chkE T N sc a l && chkE T N sc b (.BoolOp .And (r :: r2 :: rest) pos)
  | .or a b, .BoolOp .Or [l, r] _ => chkE T N sc a l && chkE T N sc b r
  | .or a b, .BoolOp .Or (l :: r :: r2 :: rest) pos => chkE T N sc a l && chkE T N sc b (.BoolOp .Or (r :: r2 :: rest) pos)
  | .ife c a b, .IfExp t l r _ => chkE T N sc c t && chkE T N sc a l && chkE T N sc b r
  | .tup es, .Tuple l _ _ => chkEs T N sc es l
  | .lst _ es, .List l _ => chkEs T N sc es l
  | .ix a b, .Subscript l r _ => chkE T N sc a l && chkE T N sc b r
  | .sl a lo hi, .Subscript l (.Slice x y none _) _ => chkE T N sc a l && chkO T N sc lo x && chkO T N sc hi y
  | .bi b _ as, .Call (.Name x _) (e :: es) [] _ => (!T.hot || decide (b = .isi)) && glOk sc x && decide (x = b.name) && as.plain && chkEs T N sc as (e :: es)
  | .mt k o (.cons a as), .Call (.Attribute l x p1) (e :: es) [] p2 => plainBase l && decide (x = k.name) && decide (k ≠ .pop0) && (p1.endLine == p2.line) && decide (es.length < 20) && chkE T N sc o l && as.plain && chkEs T N sc (.cons a as) (e :: es)
  | .mt .pop0 o .nil, .Call (.Attribute l x p1) [] [] p2 => plainBase l && decide (x = ("pop" : Str)) && (p1.endLine == p2.line) && chkE T N sc o l
  | .bits a, .Call (.Attribute l x p1) [] [] p2 => plainBase l && decide (x = ("bit_length" : Str)) && (p1.endLine == p2.line) && chkE T N sc a l
  | .call f as, .Call (.Name x _) (e :: es) [] _ => !T.hot && glOk sc x && decide (T.fns[f]? = some (some x)) && as.plain && chkEs T N sc as (e :: es)
  | .call f .nil, .Call (.Name x _) [] [] _ => !T.hot && glOk sc x && decide (T.fns[f]? = some (some x))
  | .mk c (.cons a .nil) false, .Call (.Name x _) [e] [] _ => !T.hot && glOk sc x && decide (T.cls[c]? = some x) && chkE T N sc a e
  | .mk c .nil false, .Call (.Name x _) [] [] _ => !T.hot && glOk sc x && decide (T.cls[c]? = some x)
  | .mk c (.cons a .nil) true, .Call (.Name x _) [] [⟨some n, e, _⟩] _ => !T.hot && glOk sc x && decide (n = ("value" : Str)) && decide (T.cls[c]? = some x) && chkE T N sc a e
  | .val a, .Attribute e f _ => decide (f = ("value" : Str)) && plainBase e && chkE T N sc a e
  | .eqX a b, .Compare l [.Eq] [r] _ => chkE T N sc a l && chkE T N sc b r
  | .comp _ elt tg k src cond own, .ListComp e [⟨t, i, ifs, 0⟩] scope _ =>
      !T.hot && blkC N sc scope own && tgOk N (relS scope sc) tg t && tgLoc (relS scope sc) tg t && tgTup k t && chkI T N sc k src i && !isSet i && chkIf T N (relS scope sc) cond ifs && chkE T N (relS scope sc) elt e
  | .gin neg a i, .Compare l [p] [.Name x _] _ => decide (p = if neg then .NotIn else .In) && glOk sc x && decide (T.kds[i]? = some x) && chkE T N sc a l
  | .gix i a, .Subscript (.Name x _) r _ => glOk sc x && decide (T.kds[i]? = some x) && chkE T N sc a r
  | .new c f as, .Call (.Name x _) (e :: es) [] _ => !T.hot && glOk sc x && decide (T.kls[c]? = some x) && decide (T.mths[f]? = some (some (c, ("__init__" : Str)))) && as.plain && chkEs T N sc as (e :: es)
  | .meth c f m o (.cons a as), .Call (.Attribute l x p1) (e :: es) [] p2 => !T.hot && plainBase l && decide (x = m) && decide (T.mths[f]? = some (some (c, m))) && (p1.endLine == p2.line) && decide (es.length < 20) && chkE T N sc o l && as.plain && chkEs T N sc (.cons a as) (e :: es)
  | .fld c x o, .Attribute l y _ => decide (y = x) && decide ((c, x) ∈ T.fds) && plainBase l && chkE T N sc o l
  | .bad, e => badOk e
  | .un u _ a, e => !T.hot && match u1E sc u e with | some l => chkE T N sc a l | none => false
  | .dnew _, .Dict [] [] _ => true
  | .dcomp key elt tg k src cond own, .DictComp ke ve [⟨t, i, ifs, 0⟩] scope _ =>
      !T.hot && blkC N sc scope own && tgOk N (relS scope sc) tg t && tgLoc (relS scope sc) tg t && tgTup k t && chkI T N sc k src i && !isSet i && chkIf T N (relS scope sc) cond ifs && chkE T N (relS scope sc) key ke && chkE T N (relS scope sc) elt ve
  | _, _ => false
def chkEs (T : Tab) (N : List Str) (sc : Scope) : MEs → List PySem.Expr → Bool
  | .nil, [] => true
  | .star a as, .Starred e _ :: es => chkE T N sc a e && chkEs T N sc as es
  | .cons a as, e :: es => chkE T N sc a e && chkEs T N sc as es
  | _, _ => false
def chkO (T : Tab) (N : List Str) (sc : Scope) : MO → Option PySem.Expr → Bool
  | .none, none => true
  | .some a, some e => chkE T N sc a e
  | _, _ => false
def chkIf (T : Tab) (N : List Str) (sc : Scope) : MO → List PySem.Expr → Bool
  | .none, [] => true
  | .some a, [e] => chkE T N sc a e
  | _, _ => false
def chkI (T : Tab) (N : List Str) (sc : Scope) : IK → MEs → PySem.Expr → Bool
  | .list, .cons a .nil, e => chkE T N sc a e
  | .tup, .cons a .nil, e => chkE T N sc a e
  | .range1, .cons a .nil, .Call (.Name x _) [e] [] _ => glOk sc x && decide (x = ("range" : Str)) && chkE T N sc a e
  | .range2, .cons a (.cons b .nil), .Call (.Name x _) [e, f] [] _ => glOk sc x && decide (x = ("range" : Str)) && chkE T N sc a e && chkE T N sc b f
  | .enum, .cons a .nil, .Call (.Name x _) [e] [] _ => glOk sc x && decide (x = ("enumerate" : Str)) && chkE T N sc a e
  | .zip, .cons a (.cons b .nil), .Call (.Name x _) [e, f] [] _ => glOk sc x && decide (x = ("zip" : Str)) && chkE T N sc a e && chkE T N sc b f
  | .zips, .cons a (.cons b .nil), .Call (.Name x _) [e, f] [⟨some n, .Constant (.bool true) _ _, _⟩] _ => glOk sc x && decide (x = ("zip" : Str)) && decide (n = ("strict" : Str)) && chkE T N sc a e && chkE T N sc b f
  | .items, .cons a .nil, .Call (.Attribute l x p1) [] [] p2 => plainBase l && decide (x = ("items" : Str)) && (p1.endLine == p2.line) && chkE T N sc a l
  | .vals, .cons a .nil, .Call (.Attribute l x p1) [] [] p2 => plainBase l && decide (x = ("values" : Str)) && (p1.endLine == p2.line) && chkE T N sc a l
  | _, _, _ => false
end
end MP
namespace MP
open PySem L2 PyProof.Rows PySem.Spec

/-! ## the operators by values -/
theorem opOr {X : Cx} {f : Value → Value → Sem Value} {r r' : R2} (h : OpR X f r) (h' : OpR X f r') : OpR X f (fun x y H Q => r x y H Q ∨ r' x y H Q) := by
  intro pins s σ H x y v u Q I rx ry q
  rcases q with q | q
  · exact h pins s σ H x y v u Q I rx ry q
  · exact h' pins s σ H x y v u Q I rx ry q
def CPowX (i j : Int) : Prop := 0 ≤ j ∧ (Builtin.Int.intBits i : Int) * j ≤ 2 ^ 27
def rStrAdd : R2 := fun x y H Q => ∃ i j, x = .str i ∧ y = .str j ∧ i.length + j.length ≤ sizeLine ∧ Q (.str (i ++ j)) H
def rStrMul : R2 := fun x y H Q => ∃ z n, x = .str z ∧ y = .int n ∧ MulOk z n ∧ Q (.str (Txt.mul z n)) H
def rInDict (neg : Bool) : R2 := fun y x H Q => ∃ a o, x = .ref a ∧ DGet H a y o ∧ Q (.bl (if neg then !o.isSome else o.isSome)) H
def rSign (neg : Bool) : R2 := fun x y H Q => ∃ (c : Nat) (z : Str), x = .str ⟨#[c]⟩ ∧ y = .str z ∧ Q (.bl (if neg then !decide (c ∈ z.cps.toList) else decide (c ∈ z.cps.toList))) H
def rCatS (K : PySem.W.Frag) : R2 := fun x y H Q => ∃ l b xs zs, x = .ref l ∧ y = .ref b ∧ SqL K H l xs ∧ SqL K H b zs ∧ xs.length + zs.length ≤ sizeLine ∧ ∀ p, H p = none → Q (.ref p) (upd H p (.lst (xs ++ zs)))
def rRepS (K : PySem.W.Frag) : R2 := fun x y H Q => ∃ l k xs, x = .ref l ∧ y = .int k ∧ SqL K H l xs ∧ -(2 ^ 63) ≤ k ∧ k < 2 ^ 63 ∧ xs.length * k.toNat ≤ sizeLine ∧
  ∀ p, H p = none → Q (.ref p) (upd H p (.lst (List.replicate k.toNat xs).flatten))
def r2 (K : PySem.W.Frag) : Op2 → R2
  | .add => fun x y H Q => rI0 (fun i j => .int (i + j)) x y H Q ∨ rStrAdd x y H Q ∨ rCatS K x y H Q ∨ rCatA K x y H Q
  | .sub => rI0 fun i j => .int (i - j)
  | .mul => fun x y H Q => rI CMulX (fun i j => .int (i * j)) x y H Q ∨ rStrMul x y H Q ∨ rRepS K x y H Q
  | .fdiv => rI CDivW fun i j => .int (i / j)
  | .mod => rI (fun _ j => j ≠ 0) fun i j => .int (i.fmod j)
  | .pow => rI CPowX fun i j => .int (i ^ j.toNat)
  | .eq => rEqD K
  | .ne => rNeD K
  | .lt => rI0 fun i j => .bl (decide (i < j))
  | .le => rI0 fun i j => .bl (decide (i ≤ j))
  | .gt => rI0 fun i j => .bl (decide (j < i))
  | .ge => rI0 fun i j => .bl (decide (j ≤ i))
  | .inn => fun x y H Q => rInD K x y H Q ∨ rInDict false x y H Q ∨ rSign false x y H Q ∨ rIn K false x y H Q
  | .nin => fun x y H Q => rNotInD K x y H Q ∨ rInDict true x y H Q ∨ rSign true x y H Q ∨ rIn K true x y H Q
  | .is_ => fun x y H Q => (y = .non ∧ Q (.bl (decide (x = .non))) H) ∨ rIsB x y H Q
  | .isn => fun x y H Q => (y = .non ∧ Q (.bl (!decide (x = .non))) H) ∨ rNotB x y H Q
section
variable {X : Cx}
theorem op_catS : OpR X (binaryOp .Add) (rCatS X.K) := by
  intro pins s σ H x y v u Q I rx ry h
  obtain ⟨l, b, xs, zs, rfl, rfl, hH, hB, hz, q⟩ := h
  cases rx
  cases ry
  obtain ⟨its, r, ⟨⟨cls, dd, data, sl⟩, n, ho, hc, hd0, hd⟩, _⟩ := I.list hH
  obtain ⟨its2, r2, ⟨⟨cls2, dd2, data2, sl2⟩, n2, ho2, hc2, hd02, hd2⟩, _⟩ := I.list hB
  simp only at hc hd hc2 hd2
  subst hc hd hc2 hd2
  have e1 := r.length
  have e2 := r2.length
  have e : its.toArray ++ its2.toArray = (its ++ its2).toArray := by simp
  refine concat_meets ⟨_, ho, rfl⟩ ⟨_, ho2, rfl⟩ noFill_list_add seq_list_add PySem.F.slot_list_add PySem.F.entry_list_add (PySem.F.args_list_add_2 _ _) (list_addW l b its.toArray its2.toArray n n2 dd dd2 sl sl2 (by rw [List.size_toArray, List.size_toArray]; omega)) ⟨ho, ho2, ?_⟩
  rw [e]
  exact ⟨.ref _, _, I.lnew (t' := s.toks) (r.append r2) (by rw [List.length_append]; omega), rfl, q _ I.fresh⟩
theorem op_repS : OpR X (binaryOp .Mult) (rRepS X.K) := by
  intro pins s σ H x y v u Q I rx ry h
  obtain ⟨l, k, xs, rfl, rfl, hH, h1, h2, hz, q⟩ := h
  cases rx
  obtain ⟨t, rfl⟩ := ry
  obtain ⟨its, r, ⟨⟨cls, dd, data, sl⟩, n, ho, hc, hd0, hd⟩, _⟩ := I.list hH
  simp only at hc hd
  subst hc hd
  have hl := r.length
  have hlen : its.toArray.size * k.toNat ≤ sizeLine := by rw [List.size_toArray, ← hl]; exact hz
  have hcap : ¬ its.toArray.size * k.toNat > (2 ^ 63 - 1) / 8 := by
    have : (sizeLine : Nat) ≤ (2 ^ 63 - 1) / 8 := by decide
    omega
  have hfit : ¬ (!Builtin.List.listFitsIndex k) = true := by
    rw [fitsIndex_both h1 h2]
    exact Bool.false_ne_true
  have hlong : ¬ Builtin.List.listTooLong (its.toArray.size * k.toNat) = true := by
    rw [notLongL hlen]
    exact Bool.false_ne_true
  have hnew : List.foldl (fun x1 x2 => x1 ++ x2) #[] (List.replicate (if its.toArray.isEmpty = true then 0 else k.toNat) its.toArray) = (List.replicate k.toNat its).flatten.toArray := by
    have f0 : ∀ m : Nat, List.foldl (fun x1 x2 => x1 ++ x2) #[] (List.replicate m its.toArray) = (List.replicate m its).flatten.toArray := fun m => by
      have := foldl_rep its m []
      rw [List.nil_append] at this
      exact this
    rw [f0]
    cases its with
    | nil => simp
    | cons a r' => rw [if_neg (by simp)]
  refine wpAny_binaryOp_repeat_ref (T := "list") (U := "int") (by decide) ⟨_, ho, rfl⟩ (fun s' => typeIs_int s' k t) noFill_list_mul PySem.F.fills_int_mul PySem.F.slot_int_rmul repeat_list PySem.F.slot_int_index.lookup
    (call_meets PySem.F.slot_int_rmul (typeIs_int s k t) PySem.F.entry_int_rmul (PySem.F.args_int_rmul_2 _ _) (lm_int_rmul_list_any k t l its.toArray n dd sl)
      ⟨ho, rfl, ⟨_, ho, rfl⟩, call_meets PySem.F.slot_list_mul ⟨_, ho, rfl⟩ PySem.F.entry_list_mul (PySem.F.args_list_mul_2 _ _) (lm_list_mul_any l its.toArray n dd sl k t hfit hcap hlong) ⟨ho, ?_⟩⟩)
  rw [hnew]
  exact ⟨.ref _, _, I.lnew (t' := s.toks) (r.rep k.toNat) (by rw [PyProof.Rows.lm_len_rep_flat, Nat.mul_comm]; exact hz), rfl, q _ I.fresh⟩
theorem op_powX : OpR X (binaryOp .Pow) (rI CPowX fun i j => .int (i ^ j.toNat)) := opI fun _ _ _ _ _ _ _ hc q => pow_int hc.1 hc.2 q
theorem op_strMul : OpR X (binaryOp .Mult) rStrMul := by
  intro pins s σ H x y v u Q I rx ry h
  obtain ⟨z, n, rfl, rfl, hc, q⟩ := h
  obtain ⟨t, rfl⟩ := rx
  obtain ⟨t', rfl⟩ := ry
  exact SB.mul hc fun t' k => ⟨.str (Txt.mul z n), H, I.tok _, ⟨_, rfl⟩, q⟩
theorem op_inDict (hu : X.A.units + 1 < cLine) : OpR X (compareOp .In) (rInDict false) := by
  intro pins s σ H x y v u Q I rx ry h
  obtain ⟨a, o, rfl, g, q⟩ := h
  cases ry
  exact d_in hu I g rx fun s' I' => ⟨.bl o.isSome, H, I', rfl, q⟩
theorem op_ninDict (hu : X.A.units + 1 < cLine) : OpR X (compareOp .NotIn) (rInDict true) := by
  intro pins s σ H x y v u Q I rx ry h
  obtain ⟨a, o, rfl, g, q⟩ := h
  cases ry
  exact d_notIn hu I g rx fun s' I' => ⟨.bl (!o.isSome), H, I', rfl, q⟩
theorem op_bin {o : Op2} {p : Operator} (e : o.bin = some p) : OpR X (binaryOp p) (r2 X.K o) := by
  cases o <;> cases e
  · exact opOr op_add (opOr op_add_str (opOr op_catS op_catA))
  · exact op_sub
  · exact opOr op_mulX (opOr op_strMul op_repS)
  · exact op_fdivW
  · exact op_modN
  · exact op_powX
theorem op_cmp {o : Op2} {p : CmpOp} (hu : X.A.units + 65 < cLine) (e : o.cmp = some p) : OpR X (compareOp p) (r2 X.K o) := by
  cases o <;> cases e
  · exact op_eqD (by omega)
  · exact op_neD (by omega)
  · exact op_lt
  · exact op_le
  · exact op_gt
  · exact op_ge
  · exact opOr (op_inD hu) (opOr (op_inDict (by omega)) (opOr op_in_sign op_in_seq))
  · exact opOr (op_notInD hu) (opOr (op_ninDict (by omega)) (opOr op_notIn_sign op_notIn_seq))
  · exact opOr op_isN op_isBl
  · exact opOr op_notN op_notBl
end

/-! ## built-ins by values -/
def rBi (K : PySem.W.Frag) : Bi → List V → Hp → VK → Prop
  | .len => fun xs H Q => (∃ x n, xs = [x] ∧ LenV K x H n ∧ Q (.int n) H) ∨ ∃ p kvs, xs = [.ref p] ∧ Rd H p (.dK kvs) ∧ Q (.int (kvs.length : Nat)) H
  | .isi => fun xs H Q => rIsi K xs H Q ∨ MPX.rIsX K xs H Q
  | .max2 => fun xs H Q => (∃ i j, xs = [.int i, .int j] ∧ Q (.int (if j > i then j else i)) H) ∨ rMax K xs H Q
  | .min1 => fun xs H Q => (∃ i j, xs = [.int i, .int j] ∧ Q (.int (if j < i then j else i)) H) ∨ MPS.rMinD K xs H Q
  | .str => fun xs H Q => (∃ i, xs = [.int i] ∧ i.natAbs.log2 < 1920 ∧ Q (.str (toString i)) H) ∨ ∃ a, xs = [.str a] ∧ Q (.str a) H
  | .dict => fun xs H Q => ∃ (a : Addr) (kvs : List (Key × V)), xs = [.ref a] ∧ Rd H a (.dK kvs) ∧ ∀ p, H p = none → Q (.ref p) (upd H p (.dK kvs))
  | .sum => rSum K
  | .sorted => fun xs H Q => MPS.rSortD K xs H Q ∨ MPS.rSortK xs H Q
  | .int => fun xs H Q => ∃ x, xs = [x] ∧ ((∃ i, x = .int i ∧ Q (.int i) H) ∨ ∃ b, x = .bl b ∧ Q (.int (if b then 1 else 0)) H)
  | .list => fun xs H Q => (∃ p ys, xs = [.ref p] ∧ (SqL K H p ys ∨ SqT K H p ys) ∧ ∀ l, H l = none → Q (.ref l) (upd H l (.lst ys))) ∨
      (∃ (a : Addr) (kvs : List (Key × V)), xs = [.ref a] ∧ Rd H a (.dK kvs) ∧ ∀ p, H p = none → Q (.ref p) (upd H p (.lst (kvs.map fun kv => kV kv.1)))) ∨
      ∃ d kvs, xs = [V.ref d] ∧ Rd H d (.dT kvs) ∧ ∀ p bs, H p = none → IsKeys H kvs bs → Q (.ref p) (upd H p (.lst (bs.map V.ref)))
  | .tuple => fun xs H Q => ∃ p ys, xs = [.ref p] ∧ ((SqL K H p ys ∧ ∀ l, H l = none → Q (.ref l) (upd H l (.tup ys))) ∨ (SqT K H p ys ∧ Q (.ref p) H))
  | .repr => fun xs H Q => ∃ x d, xs = [x] ∧ Dp K H x d ∧ d.showable = true ∧ d.hasDict = false ∧ d.depth ≤ 60 ∧ d.shown.length ≤ sizeLine ∧ Q (.str d.shown) H
  | .set => fun _ _ _ => False
end MP
namespace MP
open PySem L2 PyProof.Rows PySem.Spec

/-! ## readings -/
/-- what the module gives: the written part, each function's promise, each constant's value -/
structure Gb where
  K : PySem.W.Frag
  /-- the own exception classes; whether they take a value -/
  cl : Nat → Addr
  hv : Nat → Bool
  /-- the own classes that are no errors; the module's dicts -/
  co : Nat → Addr
  kd : Nat → Addr
structure Gv extends Gb where
  sp : Nat → Sp
  gv : Nat → V
instance : Coe Gv Gb := ⟨Gv.toGb⟩
def rdTgs : List Nat → TGs
  | [] => gNil
  | i :: r => gCons (gName i) (rdTgs r)
def rdTg (K : PySem.W.Frag) : MT → TG
  | .nm i => gName i
  | .tp is => gTup K is.length (rdTgs is)
def tBad : TE := fun _ _ _ => False
def tTru (K : PySem.W.Frag) (t : TE) : TT := fun σ H Q => t σ H fun x H' => ∃ k, TruV K x H' k ∧ Q k H'
def rSl (K : PySem.W.Frag) : V → Option Int → Option Int → Hp → VK → Prop := fun x lo hi H Q => rSlL K x lo hi H Q ∨ rSlA K x lo hi H Q ∨ rSlS x lo hi H Q
def rIxA (K : PySem.W.Frag) : R2 := fun x y H Q => rIx K x y H Q ∨ ∃ a v, x = .ref a ∧ DGet H a y (some v) ∧ Q v H
def rGet1 : V → List V → Hp → VK → Prop := fun x xs H Q => ∃ a y o, x = .ref a ∧ xs = [y] ∧ DGet H a y o ∧ Q (o.getD .non) H
def rGet2 : V → List V → Hp → VK → Prop := fun x xs H Q => ∃ a y z o, x = .ref a ∧ xs = [y, z] ∧ DGet H a y o ∧ Q (o.getD z) H
def rExtendS (K : PySem.W.Frag) : V → List V → Hp → VK → Prop := fun x vs H Q => ∃ l b xs zs, x = .ref l ∧ vs = [.ref b] ∧ H l = some (.lst xs) ∧ SqL K H b zs ∧ xs.length + zs.length ≤ sizeLine ∧ Q .non (upd H l (.lst (xs ++ zs)))
def rMt (K : PySem.W.Frag) : Mt → V → List V → Hp → VK → Prop
  | .append => rAppend
  | .pop0 => rPop
  | .popAt => rPopAt
  | .extend => rExtendS K
  | .index => rIndexD K
  | .get1 => rGet1
  | .get2 => rGet2
/-- a form of one part, by its value -/
def rU1 (K : PySem.W.Frag) : U1 → V → Hp → VK → Prop
  | .rev => fun x H Q => ∃ a xs, x = .ref a ∧ SqL K H a xs ∧ ∀ p, H p = none → Q (.ref p) (upd H p (.lst xs.reverse))
  | .lset => MPS.rLSetK K
  | .sset => MPS.rSSetI K
  | .lrng => fun x H Q => ∃ n : Int, x = .int n ∧ (RgOk 0 n ∧ ∀ p, H p = none → Q (.ref p) (upd H p (.lst (rgV 0 n))))
/-- what a plain for walks: a list, a tuple, a text -/
def iSeq (K : PySem.W.Frag) (te : TE) : TI := fun σ H R => te σ H fun x H1 => (∃ a, x = .ref a ∧ (∃ xs, SqL K H1 a xs) ∧ R (Itl K a) H1) ∨ (∃ a, x = .ref a ∧ (∃ xs, SqT K H1 a xs) ∧ R (Itt K a) H1) ∨ ∃ z, x = .str z ∧ R (Its z) H1
def lkE (k : IK) (t : TE) : TE := if k.lock then tLockE t else t
def lkS (k : IK) (t : TS) : TS := if k.lock then tLock t else t
def rGin (K : PySem.W.Frag) (d : Addr) (neg : Bool) : R2 := fun x y H Q => ∃ (z : Str) (r : Option Value), x = .str z ∧ y = .ref d ∧ PySem.W.nsIn K d z = some r ∧ Q (.bl (if neg then !r.isSome else r.isSome)) H
def rGix (K : PySem.W.Frag) (d : Addr) : R2 := fun x y H Q => ∃ (z : Str) (u0 : Value) (v0 : V), x = .ref d ∧ y = .str z ∧ PySem.W.nsIn K d z = some (some u0) ∧ RelV v0 u0 ∧ Q v0 H
def tGin (K : PySem.W.Frag) (d : Addr) (neg : Bool) (t : TE) : TE := tOp (rGin K d neg) t (tC (.ref d))
def tGix (K : PySem.W.Frag) (d : Addr) (t : TE) : TE := tOp (rGix K d) (tC (.ref d)) t
def tFldC (C : Addr) (f : Str) (t : TE) : TE := fun σ H Q => t σ H fun x H1 => ∃ a dx fs v, x = .ref a ∧ H1 a = some (.ins C dx fs) ∧ fs.lookup f = some v ∧ Q v H1
mutual
def rdE (G : Gv) (W : WX) : ME → TE
  | .var i => tVar i
  | .cst c => tC c.v
  | .glb i => tC (G.gv i)
  | .ty t => tC (.ty t)
  | .op o _ a b => tOp (r2 G.K o) (rdE G W a) (rdE G W b)
  | .neg a => tUn (rU fun i => .int (-i)) (rdE G W a)
  | .chain o o2 a b c => tChain (r2 G.K o) (r2 G.K o2) (rdE G W a) (rdE G W b) (rdE G W c)
  | .and a b => tAndT G.K (rdE G W a) (rdE G W b)
  | .or a b => tOrT G.K (rdE G W a) (rdE G W b)
  | .not a => tNotT G.K (rdE G W a)
  | .ife c a b => tIf (rdT G W c) (rdE G W a) (rdE G W b)
  | .tup es => tTup (rdEs G W es)
  | .lst _ es => tLst (rdEs G W es)
  | .ix a b => tOp (rIxA G.K) (rdE G W a) (rdE G W b)
  | .sl a lo hi => tSl (rSl G.K) (rdE G W a) (rdO G W lo) (rdO G W hi)
  | .bi b _ as => tCB (rBi G.K b) (rdEs G W as)
  | .mt k o .nil => tBM0 G.K k.ty (rMt G.K k) (rdE G W o)
  | .mt k o (.cons a as) => tBM G.K k.ty (rMt G.K k) (rdE G W o) (tCons (rdE G W a) (rdEs G W as))
  | .mt _ _ (.star _ _) => tBad
  | .bits a => tBits (rdE G W a)
  | .call f as => tCallS (G.sp f) (WE W) (rdEs G W as)
  | .mk c (.cons a .nil) _ => if G.hv c = true then MPX.tMkV (G.cl c) (rdE G W a) else tBad
  | .mk c .nil _ => if G.hv c = true then MPX.tMk0 (G.cl c) else MPX.tMkN (G.cl c)
  | .mk _ _ _ => tBad
  | .val a => MPX.tVal G.K (rdE G W a)
  | .eqX a b => tOp (MPX.rEqX G.K) (rdE G W a) (rdE G W b)
  | .gin neg a i => tGin G.K (G.kd i) neg (rdE G W a)
  | .gix i a => tGix G.K (G.kd i) (rdE G W a)
  | .new c f as => MPX.tMakeS (G.co c) (G.sp f) (WE W) (rdEs G W as)
  | .meth c f m o as => MPX.tMethS (G.co c) m (G.sp f) (WE W) (rdE G W o) (rdEs G W as)
  | .fld c x o => tFldC (G.co c) x (rdE G W o)
  | .bad => tBad
  | .un u _ a => fun σ H Q => rdE G W a σ H fun x H1 => rU1 G.K u x H1 Q
  | .dnew t => if t then tDNewT else tDNewK
  | .dcomp key elt tg k src cond own => lkE k (tDc (rdI G W k src) (rdTg G.K tg) (rdIf G (fun _ _ _ _ => False) cond) (rdE G (fun _ _ _ _ => False) key) (rdE G (fun _ _ _ _ => False) elt) (own.map (·.2)))
  | .comp _ elt tg k src cond own => lkE k (tLc (rdI G W k src) (rdTg G.K tg) (rdIf G (fun _ _ _ _ => False) cond) (rdE G (fun _ _ _ _ => False) elt) (own.map (·.2)))
def rdEs (G : Gv) (W : WX) : MEs → TA
  | .nil => tNil
  | .cons a as => tCons (rdE G W a) (rdEs G W as)
  | .star a as => StX.tStar G.K (rdE G W a) (rdEs G W as)
def rdO (G : Gv) (W : WX) : MO → TO
  | .none => tNoPart
  | .some a => tPart (rdE G W a)
def rdIf (G : Gv) (W : WX) : MO → TT
  | .none => tYes
  | .some a => rdT G W a
def rdI (G : Gv) (W : WX) : IK → MEs → TI
  | .list, .cons a .nil => iSeq G.K (rdE G W a)
  | .tup, .cons a .nil => iTup G.K (rdE G W a)
  | .range1, .cons a .nil => iRng1 (tCons (rdE G W a) tNil)
  | .range2, .cons a (.cons b .nil) => iRng2 (tCons (rdE G W a) (tCons (rdE G W b) tNil))
  | .enum, .cons a .nil => iEnum G.K (tCons (rdE G W a) tNil)
  | .zip, .cons a (.cons b .nil) => iZip G.K (tCons (rdE G W a) (tCons (rdE G W b) tNil))
  | .zips, .cons a (.cons b .nil) => MPZ.iZipS G.K (tCons (rdE G W a) (tCons (rdE G W b) tNil))
  | .items, .cons a .nil => iItems (rdE G W a)
  | .vals, .cons a .nil => iVals (rdE G W a)
  | _, _ => fun _ _ _ => False
def rdT (G : Gv) (W : WX) : ME → TT
  | .and a b => tAnd (rdT G W a) (rdT G W b)
  | .or a b => tOr (rdT G W a) (rdT G W b)
  | .not a => tNot (rdT G W a)
  | .ife _ _ _ => fun _ _ _ => False
  | .op o _ a b => if o.cmp.isSome then tTest (tOp (r2 G.K o) (rdE G W a) (rdE G W b)) else tTru G.K (tOp (r2 G.K o) (rdE G W a) (rdE G W b))
  | .chain o o2 a b c => tTest (tChain (r2 G.K o) (r2 G.K o2) (rdE G W a) (rdE G W b) (rdE G W c))
  | .var i => tTru G.K (tVar i)
  | .cst c => tTru G.K (tC c.v)
  | .glb i => tTru G.K (tC (G.gv i))
  | .ix a b => tTru G.K (tOp (rIxA G.K) (rdE G W a) (rdE G W b))
  | .bi b _ as => tTru G.K (tCB (rBi G.K b) (rdEs G W as))
  | .un u _ a => tTru G.K fun σ H Q => rdE G W a σ H fun x H1 => rU1 G.K u x H1 Q
  | .call f as => tTru G.K (tCallS (G.sp f) (WE W) (rdEs G W as))
  | .val a => tTru G.K (MPX.tVal G.K (rdE G W a))
  | .gin neg a i => tTest (tGin G.K (G.kd i) neg (rdE G W a))
  | .meth c f m o as => tTru G.K (MPX.tMethS (G.co c) m (G.sp f) (WE W) (rdE G W o) (rdEs G W as))
  | .fld c x o => tTru G.K (tFldC (G.co c) x (rdE G W o))
  | _ => fun _ _ _ => False
end

/-! ## the context -/
/-- what the written part says of an own error's class -/
def ClF (P : Program) (K : PySem.W.Frag) (C : Addr) (v : Bool) : Prop := PySem.W.keepIn K (.ref C) = true ∧ if v = true then MPX.SxT P K C else PySem.W.excIn K C PySem.HandSPX.veTail "ValueError.__new__" = true
structure CxOk (T : Tab) (G : Gv) (k : Nat) (N : List Str) (sc : Scope) (X : Cx) : Prop where
  hN : X.N = N
  nd : N.Nodup
  hsc : X.env.scope = sc
  hK : X.K = G.K
  calm : T.hot = false → X.calm = true
  room1 : T.hot = false → Room (k + 1) X.A
  hu : X.A.units + 65 < cLine
  gds : X.A.guards = some []
  fn : ∀ i x, T.fns[i]? = some (some x) → ∃ a fd ps, X.mg x = some (.ref a) ∧ PySem.W.keepIn X.K (.ref a) = true ∧ Binds X.K fd ps [] ∧ MPX.FnG X.prog X.w X.K X.mg X.base (L2.CX X.prog X.w) k a fd ps (G.sp i)
  glb : ∀ i x, T.glbs[i]? = some x → ∃ u, X.mg x = some u ∧ RelV (G.gv i) u
  cls : ∀ i x, T.cls[i]? = some x → X.mg x = some (.ref (G.cl i)) ∧ ClF X.prog X.K (G.cl i) (G.hv i)
  kds : ∀ i x, T.kds[i]? = some x → X.mg x = some (.ref (G.kd i)) ∧ ∃ es n, KDict X.K X.w (G.kd i) es n
  kls : ∀ c x, T.kls[c]? = some x → X.mg x = some (.ref (G.co c))
  mth : ∀ f c m, T.mths[f]? = some (some (c, m)) → Cls X.K (G.co c) ∧ ∃ a fd ps, Meth X.K (G.co c) m a ∧ (m = "__init__" → Mk X.K (G.co c) a) ∧ Binds X.K fd ps [] ∧ MPX.FnG X.prog X.w X.K X.mg X.base (L2.CX X.prog X.w) k a fd ps (G.sp f)
  fds : ∀ c x, (c, x) ∈ T.fds → Cls X.K (G.co c) ∧ NoAttr X.K (G.co c) x
  blt : ∀ b : Bi, X.mg b.name = none
  tys : ∀ t ∈ tyNames, X.mg (Str.ofString t) = none
  rng : X.mg "range" = none
  enu : X.mg "enumerate" = none
  zp : X.mg "zip" = none
section
variable {T : Tab} {G : Gv} {k : Nat} {N : List Str} {sc : Scope} {X : Cx}
theorem CxOk.room (C : CxOk T G k N sc X) (h : T.hot = false) : Room k X.A := (C.room1 h).mono (Nat.le_succ k)
theorem CxOk.blk (C : CxOk T G k N sc X) {s : Shared} {H : Hp} {scope : Scope} {cl : List (Str × Addr)} {Ca : Addr} {fp : List Addr} : CxOk T G k N (relS scope sc) (X.blk s H scope (compEnvC scope cl Ca X.env) fp) :=
  ⟨C.hN, C.nd, by rw [← C.hsc]; rfl, C.hK, C.calm, C.room1, C.hu, C.gds, C.fn, C.glb, C.cls, C.kds, C.kls, C.mth, C.fds, C.blt, C.tys, C.rng, C.enu, C.zp⟩
theorem nm_ok (C : CxOk T G k N sc X) {i : Nat} {x : Str} {pos : Pos} (h : nmOk N sc i x = true) : PE X (.Name x pos) (tVar i) := by
  unfold nmOk at h
  simp only [Bool.and_eq_true, Bool.not_eq_true', decide_eq_true_eq] at h
  obtain ⟨⟨⟨h1, h2⟩, h3⟩, h4⟩ := h
  refine pe_var (by rw [C.hN]; exact h1) ?_ h3 h4
  rw [C.hsc]
  unfold Vis
  split at h2
  · exact .inl (by assumption)
  · exact .inr (.inl (by assumption))
  · exact .inr (.inr (by assumption))
  · cases h2
theorem gl_ok (C : CxOk T G k N sc X) {x : Str} (h : glOk sc x = true) : Gl X x ∧ (x == ("__debug__" : Str)) = false ∧ x ≠ "__name__" := by
  unfold glOk at h
  simp only [Bool.and_eq_true, Bool.not_eq_true', decide_eq_true_eq, beq_eq_false_iff_ne, ne_eq] at h
  refine ⟨?_, by simpa using h.1.2, h.2⟩
  show X.env.scope.names.lookup x = some .globalImplicit
  rw [C.hsc]
  exact h.1.1
end
end MP
namespace MP
open PySem L2 PyProof.Rows PySem.Spec
section
variable {T : Tab} {N : List Str} {sc : Scope}
theorem u1_starX {u : U1} {e : PySem.Expr} {p : Pos} : u1E sc u (.Starred e p) = none := by cases u <;> rfl
theorem u1_sliceX {u : U1} {lo hi st : Option PySem.Expr} {p : Pos} : u1E sc u (.Slice lo hi st p) = none := by cases u <;> rfl
theorem u1_setX {u : U1} {l : List PySem.Expr} {n : Nat} {p : Pos} : u1E sc u (.Set l n p) = none := by cases u <;> rfl
theorem inv_star {m : ME} {e : PySem.Expr} {p : Pos} (h : chkE T N sc m (.Starred e p) = true) : False := by
  unfold chkE at h
  split at h <;> first | (rename_i q; cases q; done) | (rw [u1_starX, Bool.and_false] at h; cases h; done) | (cases h; done) | (simp at *; done)
theorem star_one {m : ME} {e : PySem.Expr} (h : chkE T N sc m e = true) (env : Env) (es : List PySem.Expr) : starEach (e :: es) env = (false, eval e env) :: starEach es env := by
  cases e <;> first | rfl | exact (inv_star h).elim
theorem any_star {pos : Pos} {env : Env} : ∀ {as : MEs} {es : List PySem.Expr}, as.plain = true → chkEs T N sc as es = true → (backTo pos (starEach es env)).any (·.1) = false
  | .nil, [], _, _ => rfl
  | .nil, _ :: _, _, h => by simp [chkEs] at h
  | .cons _ _, [], _, h => by simp [chkEs] at h
  | .star _ _, _, h, _ => by cases h
  | .cons a as, e :: es, hp, h => by
    unfold chkEs at h
    rw [Bool.and_eq_true] at h
    rw [star_one h.1]
    show ((false, eval e env) :: backTo pos (starEach es env)).any (·.1) = false
    rw [List.any_cons, any_star (as := as) hp h.2]
    rfl
theorem all_nostar {pos : Pos} {env : Env} : ∀ {as : MEs} {es : List PySem.Expr}, as.plain = true → chkEs T N sc as es = true → (backTo pos (starEach es env)).all (fun x => !x.1) = true
  | .nil, [], _, _ => rfl
  | .nil, _ :: _, _, h => by simp [chkEs] at h
  | .cons _ _, [], _, h => by simp [chkEs] at h
  | .star _ _, _, h, _ => by cases h
  | .cons a as, e :: es, hp, h => by
    unfold chkEs at h
    rw [Bool.and_eq_true] at h
    rw [star_one h.1]
    show ((false, eval e env) :: backTo pos (starEach es env)).all (fun x => !x.1) = true
    rw [List.all_cons, all_nostar (as := as) hp h.2]
    rfl
theorem plain_base {o : PySem.Expr} {x : Str} {env : Env} {w : Sem Value} (h : plainBase o = true) : attributeBase o x env w = w := by
  unfold plainBase at h
  split at h
  · exact abase_call h
  · rename_i hn
    unfold attributeBase
    split
    · exact absurd rfl (hn _ _ _)
    · rfl
theorem inv_slice {m : ME} {lo hi st : Option PySem.Expr} {p : Pos} (h : chkE T N sc m (.Slice lo hi st p) = true) : False := by
  unfold chkE at h
  split at h <;> first | (rename_i q; cases q; done) | (rw [u1_sliceX, Bool.and_false] at h; cases h; done) | (cases h; done) | (simp at *; done)
theorem plain_ix {m : ME} {e : PySem.Expr} (h : chkE T N sc m e = true) (o i : Value) : subscripted e false o i = operate [o, i] (getItem o i) := by
  cases e <;> first | rfl | exact (inv_slice h).elim
theorem inv_set {m : ME} {l : List PySem.Expr} {n : Nat} {p : Pos} (h : chkE T N sc m (.Set l n p) = true) : False := by
  unfold chkE at h
  split at h <;> first | (rename_i q; cases q; done) | (rw [u1_setX, Bool.and_false] at h; cases h; done) | (cases h; done) | (simp at *; done)
theorem no_behind {m : ME} {e : PySem.Expr} {op : CmpOp} (h : chkE T N sc m e = true) : behindInMarks op e = false := by
  cases e <;> first | rfl | exact (inv_set h).elim
theorem no_last {m m2 : ME} {e e2 : PySem.Expr} {op op2 : CmpOp} (h : chkE T N sc m e = true) (h2 : chkE T N sc m2 e2 = true) : lastMarks [op, op2] [e, e2] = false := by
  show behindInMarks op2 e2 = false
  exact no_behind h2
theorem no_fold {e : PySem.Expr} {env : Env} (h : isSet e = false) : ∀ x, foldedSetIterable e env x = pure x := by
  intro x
  cases e <;> first | rfl | cases h
end

/-! ## the readings are right -/
structure All (T : Tab) (G : Gv) (k : Nat) (N : List Str) (n : Nat) : Prop where
  pe : ∀ m : ME, sizeOf m < n → ∀ (sc : Scope) (X : Cx) (W : WX) (e : PySem.Expr), CxOk T G k N sc X → Takes X W → chkE T N sc m e = true → PE X e (rdE G W m)
  pt : ∀ m : ME, sizeOf m < n → ∀ (sc : Scope) (X : Cx) (W : WX) (e : PySem.Expr), CxOk T G k N sc X → Takes X W → chkE T N sc m e = true → PT X e (rdT G W m)
  pw : ∀ m : ME, sizeOf m < n → ∀ (sc : Scope) (X : Cx) (W : WX) (op : PySem.BoolOp) (l : List PySem.Expr) (pos : Pos), CxOk T G k N sc X → Takes X W → chkE T N sc m (.BoolOp op l pos) = true → PW X (.BoolOp op l pos) (rdT G W m)
  pa : ∀ m : MEs, sizeOf m < n → ∀ (sc : Scope) (X : Cx) (W : WX) (e : List PySem.Expr), CxOk T G k N sc X → Takes X W → chkEs T N sc m e = true → PA X e (rdEs G W m)
  po : ∀ m : MO, sizeOf m < n → ∀ (sc : Scope) (X : Cx) (W : WX) (e : Option PySem.Expr), CxOk T G k N sc X → Takes X W → chkO T N sc m e = true → PO X e (rdO G W m)
  pf : ∀ m : MO, sizeOf m < n → ∀ (sc : Scope) (X : Cx) (W : WX) (e : List PySem.Expr), CxOk T G k N sc X → Takes X W → chkIf T N sc m e = true → PTs X e (rdIf G W m)
  pi : ∀ m : MEs, sizeOf m < n → ∀ (q : IK) (sc : Scope) (X : Cx) (W : WX) (tg e : PySem.Expr), CxOk T G k N sc X → Takes X W → tgTup q tg = true → chkI T N sc q m e = true → PI X tg e (rdI G W q m)
section
variable {T : Tab} {G : Gv} {k : Nat} {N : List Str} {n : Nat} {sc : Scope} {X : Cx} {W : WX}
theorem tg_name (C : CxOk T G k N sc X) {i : Nat} {x : Str} {pos : Pos} (h : (decide (N[i]? = some x) && (match sc.names.lookup x with | some .local => true | some .cell => true | _ => false)) = true) (hf : X.fn x = true ∨ sc.names.lookup x = some .local) : PG X (.Name x pos) (gName i) := by
  rw [Bool.and_eq_true] at h
  have h1 := of_decide_eq_true h.1
  have h2 := h.2
  have hloc : L2.Loc X.env.scope x := by
    unfold L2.Loc
    rw [C.hsc]
    split at h2
    · exact .inl (by assumption)
    · exact .inr (by assumption)
    · cases h2
  exact pg_name (by rw [C.hN]; exact C.nd) (by rw [C.hN]; exact h1) hloc (by rw [C.hsc]; exact hf)
theorem tg_names (C : CxOk T G k N sc X) : ∀ {is : List Nat} {es : List PySem.Expr}, tgOk.go N sc is es = true → (∀ x p, .Name x p ∈ es → X.fn x = true ∨ sc.names.lookup x = some .local) →
    PGs X es (rdTgs is) ∧ (assignEach es X.env).length = is.length ∧ (assignEach es X.env).findIdx? (·.1) = none
  | [], [], _, _ => ⟨pgs_nil, rfl, rfl⟩
  | [], _ :: _, h, _ => by simp [tgOk.go] at h
  | _ :: _, [], h, _ => by simp [tgOk.go] at h
  | i :: is, e :: es, h, hf => by
    unfold tgOk.go at h
    split at h <;> try (simp at *; done)
    rename_i e1 e2
    cases e1
    cases e2
    rw [Bool.and_eq_true] at h
    obtain ⟨g1, g2, g3⟩ := tg_names C h.2 fun x p hx => hf x p (List.mem_cons_of_mem _ hx)
    refine ⟨pgs_cons (tg_name C h.1 (hf _ _ List.mem_cons_self)) g1 rfl, ?_, ?_⟩
    · show (assignEach es X.env).length + 1 = is.length + 1
      rw [g2]
    · show List.findIdx? (·.1) ((false, assign _ X.env) :: assignEach es X.env) = none
      rw [List.findIdx?_cons]
      simp [g3]
theorem tg_ok (C : CxOk T G k N sc X) {tm : MT} {tg : PySem.Expr} (h : tgOk N sc tm tg = true) (hf : (∀ x, X.fn x = true) ∨ tgLoc sc tm tg = true) (hh : T.hot = false) : PG X tg (rdTg G.K tm) := by
  unfold tgOk at h
  split at h
  · refine tg_name C h ?_
    rcases hf with hf | hf
    · exact .inl (hf _)
    · exact .inr (by simpa [tgLoc] using hf)
  · obtain ⟨g1, g2, g3⟩ := tg_names C h fun x p hx => by
      rcases hf with hf | hf
      · exact .inl (hf _)
      · right
        have := (List.all_eq_true.mp (by simpa only [tgLoc] using hf)) _ hx
        simpa using this
    show PG X _ (gTup G.K _ _)
    rw [← C.hK]
    exact pg_tup (C.calm hh) g1 g2 g3
  · cases h
end
end MP
namespace MP
open PySem L2 PyProof.Rows PySem.Spec
def Bi.val (b : Bi) : Value := match b.isTy with | some t => .type t | none => .builtin b.bid
section
variable {X : Cx}
theorem call_reprD (hu : X.A.units + 65 < cLine) (gd : X.A.guards = some []) : CallR X (.builtin "repr") (rBi X.K .repr) := by
  intro pins s σ H xs us Q I r h
  obtain ⟨x, d, rfl, hd, h1, h2, h3, h4, q⟩ := h
  obtain ⟨u, rfl, ru⟩ := vals1 r
  obtain ⟨as, rd⟩ := Dp.reads I d x u hd ru
  cases hd with
  | non => cases ru; exact PySem.P.repr_of_none ⟨.str "None", H, I.tok _, ⟨_, rfl⟩, q⟩
  | bl b => cases ru; exact PySem.P.repr_of_bool ⟨.str (if b then "True" else "False"), H, I.tok _, ⟨_, rfl⟩, q⟩
  | int i =>
    obtain ⟨t, rfl⟩ := ru
    exact PySem.P.repr_of_int (of_decide_eq_true h1) ⟨.str (toString i), H, I.tok _, ⟨_, rfl⟩, q⟩
  | str z =>
    obtain ⟨t, rfl⟩ := ru
    exact PySem.P.repr_of_str ⟨.str (reprText z), H, I.tok _, ⟨_, rfl⟩, q⟩ h4
  | @lst a xs ds hs ht =>
    cases ru
    exact repr_of_reads' rd h1 (fun e => by rw [h2] at e; cases e) gd (by omega) (fun _ _ e => e) (fun h' u tk hk => ⟨.str _, H, I.kept (t' := tk) hk, ⟨_, rfl⟩, q⟩) h4
  | @tup a xs ds hs ht =>
    cases ru
    exact repr_of_reads' rd h1 (fun e => by rw [h2] at e; cases e) gd (by omega) (fun _ _ e => e) (fun h' u tk hk => ⟨.str _, H, I.kept (t' := tk) hk, ⟨_, rfl⟩, q⟩) h4
theorem bi_ok (b : Bi) (hc : b ≠ .isi → X.calm = true) (hu : X.A.units + 65 < cLine) (gd : X.A.guards = some []) : CallR X b.val (rBi X.K b) := by
  cases b
  · -- len
    intro pins s σ H xs us Q I r h
    rcases h with h | ⟨p, kvs, rfl, e, q⟩
    · exact call_len pins s σ H xs us Q I r h
    · obtain ⟨u, rfl, ru⟩ := vals1 r
      cases ru
      exact d_len I e fun t s' I' => ⟨.int (kvs.length : Nat), H, I', ⟨t, rfl⟩, q⟩
  · intro pins s σ H xs us Q I r h
    rcases h with h | h
    · exact call_isi pins s σ H xs us Q I r h
    · exact MPX.call_isX pins s σ H xs us Q I r h
  · intro pins s σ H xs us Q I r h
    rcases h with h | h
    · exact call_max2 (hc (by decide)) pins s σ H xs us Q I r h
    · exact cr_max (hc (by decide)) pins s σ H xs us Q I r h
  · exact cr_sum (hc (by decide))
  · intro pins s σ H xs us Q I r h
    rcases h with h | h
    · exact MPS.cr_sortD hu pins s σ H xs us Q I r h
    · exact MPS.cr_sortK (hc (by decide)) hu pins s σ H xs us Q I r h
  · intro pins s σ H xs us Q I r h
    obtain ⟨x, rfl, h⟩ := h
    refine call_int1 pins s σ H [x] us Q I r ?_
    rcases h with ⟨i, rfl, q⟩ | ⟨b, rfl, q⟩
    · exact .inl ⟨i, rfl, q⟩
    · exact .inr ⟨b, rfl, q⟩
  · intro pins s σ H xs us Q I r h
    rcases h with h | h | h
    · exact call_list_of pins s σ H xs us Q I r h
    · exact call_listD (hc (by decide)) pins s σ H xs us Q I r h
    · exact call_list_dT (hc (by decide)) pins s σ H xs us Q I r h
  · exact call_tuple_of
  · exact call_reprD hu gd
  · exact fun _ _ _ _ _ _ _ _ _ h => h.elim
  · intro pins s σ H xs us Q I r h
    rcases h with h | h
    · exact call_min2 (hc (by decide)) pins s σ H xs us Q I r h
    · exact MPS.cr_minD (hc (by decide)) hu pins s σ H xs us Q I r h
  · intro pins s σ H xs us Q I r h
    rcases h with h | h
    · exact call_str_int pins s σ H xs us Q I r h
    · exact SkE.call_str_str pins s σ H xs us Q I r h
  · exact call_dictD
theorem bi_boot (b : Bi) : bootBuiltins b.name = some b.val := by
  cases b <;> decide +kernel
theorem bi_name (b : Bi) : b.name ≠ "__name__" ∧ (b.name == ("__debug__" : Str)) = false := by
  cases b <;> decide +kernel
theorem pe_bi {b : Bi} {e : PySem.Expr} {es : List PySem.Expr} {t : TA} {p pos : Pos} (hc : b ≠ .isi → X.calm = true) (hu : X.A.units + 65 < cLine) (gd : X.A.guards = some []) (hg : Gl X b.name) (hm : X.mg b.name = none) (ha : PA X (e :: es) t)
    (he : starEach (e :: es) X.env = (false, eval e X.env) :: starEach es X.env) (hpl : (backTo pos (starEach es X.env)).any (·.1) = false) : PE X (.Call (.Name b.name p) (e :: es) [] pos) (tCB (rBi X.K b) t) := by
  have hb := bi_ok b hc hu gd
  have hv := bi_boot b
  unfold Bi.val at hb hv
  cases q : b.isTy with
  | none =>
    rw [q] at hb hv
    exact pe_callB hb hg hm hv ha (bi_name b).1 (bi_name b).2 he hpl
  | some t' =>
    rw [q] at hb hv
    exact pe_callTy hb hg hm hv ha (bi_name b).1 (bi_name b).2 he hpl
theorem pe_callS0 {CX : CXT} {k : Nat} {f : Addr} {fd : FuncData} {ps : List Str} {sp : Sp} {E : L2.St → XK} {x : Str} {p pos : Pos} (F : FnOk X.prog X.w X.K X.mg X.base CX k f fd ps sp) (hr : Room k X.A) (hg : Gl X x) (hm : X.mg x = some (.ref f)) (hk : PySem.W.keepIn X.K (.ref f) = true) (hb : Binds X.K fd ps []) (hx : ∀ σ, PassesAt CX X σ (E σ))
    (hdb : (x == ("__debug__" : Str)) = false := by decide) : PE X (.Call (.Name x p) [] [] pos) (tCallS sp E tNil) := by
  refine ⟨fun pins s σ H Q I h => ?_⟩
  refine wpAny_Call_Name_kw (ld_glob I hg hm ?_ hdb)
  exact PySem.W.callWith_K0 I.kIn hk (run_fnS (us := []) F hr hb (hx σ) I .nil h)
theorem ix_dict (hu : X.A.units + 1 < cLine) : IxR X (fun x y H Q => ∃ a v, x = .ref a ∧ DGet H a y (some v) ∧ Q v H) := by
  intro value slice pins s σ H x y v u Q I rx ry h hs
  obtain ⟨a, w, rfl, g, q⟩ := h
  cases rx
  exact tail_any (ops := [.ref a, u]) (dict_typeIs I g) PySem.F.slot_dict_getitem.lookup (d_getItem hu I g ry fun w' s' I' r' => ⟨w, H, I', r', q⟩) hs
theorem extend_any (l b : Addr) (us vs : Array Value) (n k : Nat) (db : Option Addr) (sb : Array (Option Value)) (ha : ¬(!us.isEmpty && Builtin.List.listTooLong (us.size + vs.size)) = true) (hb : us.size ≤ sizeLine) (hc : us.size + vs.size ≤ sizeLine + 1) :
    Meets (Builtin.«list.extend» ⟨[.ref l, .ref b], []⟩) (fun _ R s => s.heap.get? l = some { cls := .type "list", dict := none, data := .seq us n, slots := #[] } ∧ s.heap.get? b = some { cls := .type "list", dict := db, data := .seq vs k, slots := sb } ∧ R (.ok (.ret Value.none)) { s with heap := s.heap.update l (Obj.mapSeq fun x => x ++ vs), toks := s.toks }) :=
  .of_wp fun prog w A R s h => by
    obtain ⟨h0, g0, d0, t0, o0⟩ := s
    obtain ⟨hl, hq, h⟩ := h
    have q1 := AutoSeq1.idx_int
    have q2 := AutoSeq1.sub_tuple_tuple
    have q3 := AutoSeq1.sub_list_list
    have q4 := AutoSeq1.sub_tuple_list
    have q5 := AutoSeq1.sub_list_tuple
    have hz' : (us ++ vs).size ≤ sizeLine + 1 := by rw [Array.size_append]; exact hc
    wp_walk using (wpAny_updateSeq hl rfl (hz := hb) (_hz' := hz')), wpAny_loadPart' hl, wpAny_loadPart' hq
    exact ⟨_, rfl, h⟩
theorem mt_extendS : MtR X "list.extend" (rExtendS X.K) := by
  intro pins s σ H x xs v us Q I rx rv h
  obtain ⟨l, b, xs, zs, rfl, rfl, hH, hB, hz, q⟩ := h
  cases rx
  obtain ⟨u, rfl, ru⟩ := vals1 rv
  cases ru
  obtain ⟨z, its, n, r, hl, e⟩ := I.lstM hH
  obtain ⟨its2, r2, ⟨⟨cls2, dd2, data2, sl2⟩, n2, e2, hc2, hd02, hd2⟩, hl2⟩ := I.list hB
  simp only at hc2 hd2
  subst hc2 hd2
  have z1 := r.length
  have z2 := r2.length
  have hsz : its.toArray.size + its2.toArray.size ≤ sizeLine := by rw [List.size_toArray, List.size_toArray]; omega
  have hlong : ¬ (!its.toArray.isEmpty && Builtin.List.listTooLong (its.toArray.size + its2.toArray.size)) = true := by rw [notLongL hsz, Bool.and_false]; exact Bool.false_ne_true
  refine call_meets PySem.F.slot_list_extend ⟨_, e, rfl⟩ PySem.F.entry_list_extend (PySem.F.args_list_extend_2 _ _)
    (extend_any l b its.toArray its2.toArray n n2 _ _ hlong (by rw [List.size_toArray]; omega) (by omega)) ⟨e, e2, ?_⟩
  exact ⟨.non, _, I.lset (its' := its ++ its2) hH e (by simp) (r.append r2) (by rw [List.length_append]; omega), rfl, q⟩
theorem mt_get1 (hu : X.A.units + 1 < cLine) : MtR X "dict.get" rGet1 := by
  intro pins s σ H x xs v us Q I rx rxs h
  obtain ⟨a, y, o, rfl, rfl, g, q⟩ := h
  cases rx
  obtain ⟨u, rfl, ru⟩ := vals1 rxs
  exact d_get1 hu I g ru fun w' s' I' r' => ⟨_, H, I', r', q⟩
theorem mt_get2 (hu : X.A.units + 1 < cLine) : MtR X "dict.get" rGet2 := by
  intro pins s σ H x xs v us Q I rx rxs h
  obtain ⟨a, y, z, o, rfl, rfl, g, q⟩ := h
  cases rx
  obtain ⟨u, u2, rfl, ru, ru2⟩ := vals2 rxs
  exact d_get2 hu I g ru ru2 fun w' s' I' r' => ⟨_, H, I', r', q⟩
theorem mt_ok (hu : X.A.units + 65 < cLine) (k : Mt) : MtR X (match k with | .append => "list.append" | .pop0 => "list.pop" | .popAt => "list.pop" | .extend => "list.extend" | .index => "list.index" | .get1 => "dict.get" | .get2 => "dict.get") (rMt X.K k) := by
  cases k
  · exact mt_append
  · exact mt_pop
  · exact mt_popAt
  · exact mt_extendS
  · exact mt_indexD hu
  · exact mt_get1 (by omega)
  · exact mt_get2 (by omega)
theorem u1_ok (hc : X.calm = true) (hu : X.A.units + 65 < cLine) (bs : X.mg "set" = none) (bl : X.mg "len" = none) (bo : X.mg "sorted" = none) (bt : X.mg "list" = none) (br : X.mg "range" = none) (gl : ∀ x, glOk X.env.scope x = true → Gl X x) {u : U1} {e l : PySem.Expr} {tl : TE} (h : u1E X.env.scope u e = some l) (hl : PE X l tl)
    (na : starEach [l] X.env = (false, eval l X.env) :: starEach [] X.env) : PE X e (fun σ H Q => tl σ H fun x H1 => rU1 X.K u x H1 Q) := by
  unfold u1E at h
  split at h
  · cases h
    exact pe_revL hl
  · split at h
    · rename_i hc2
      cases h
      obtain ⟨rfl, rfl, g1, g2⟩ := hc2
      exact MPS.pe_setThen (MPS.lset_keys hc) (gl _ g1) bl (bi_boot .len) (bi_name .len).1 (bi_name .len).2 (gl _ g2) bs hl na
    · cases h
  · split at h
    · rename_i hc2
      cases h
      obtain ⟨rfl, rfl, g1, g2⟩ := hc2
      exact MPS.pe_setThen (MPS.sset_ints hc hu) (gl _ g1) bo (bi_boot .sorted) (bi_name .sorted).1 (bi_name .sorted).2 (gl _ g2) bs hl na
    · cases h
  · split at h
    · rename_i hc2
      cases h
      obtain ⟨rfl, rfl, g1, g2⟩ := hc2
      exact pe_listRg hc (gl _ g1) bt (prg_1 (gl _ g2) br hl na)
    · cases h
  · cases h
theorem ty_boot {t : String} (h : t ∈ tyNames) : bootBuiltins (Str.ofString t) = some (.type t) ∧ Str.ofString t ≠ "__name__" ∧ (Str.ofString t == ("__debug__" : Str)) = false := by
  unfold tyNames at h
  simp only [List.mem_cons, List.not_mem_nil, or_false] at h
  rcases h with rfl | rfl | rfl | rfl | rfl | rfl | rfl <;> decide +kernel
theorem few_star {N : List Str} {T : Tab} {sc : Scope} {a : ME} {as : MEs} {e : PySem.Expr} {es : List PySem.Expr} {cpos : Pos} (hp : as.plain = true) (h : chkEs T N sc (.cons a as) (e :: es) = true) (hl : es.length < 20) : ((backTo cpos (starEach (e :: es) X.env)).all (fun x => !x.1) && (backToKw cpos (keywordEach [] X.env)).all (fun x => x.1.isSome)
      && decide ((e :: es).length + ([] : List Keyword).length + (if ([] : List Keyword).isEmpty then 0 else 1) < 30)) = true := by
  rw [all_nostar (as := .cons a as) hp h]
  have : (e :: es).length + ([] : List Keyword).length + (if ([] : List Keyword).isEmpty then 0 else 1) < 30 := by
    simp only [List.length_cons, List.length_nil, List.isEmpty_nil, if_true]
    omega
  rw [decide_eq_true this]
  rfl
theorem pe_mt {N : List Str} {T : Tab} {sc : Scope} {k : Mt} {a : ME} {as : MEs} {o e : PySem.Expr} {es : List PySem.Expr} {to : TE} {t : TA} {apos cpos : Pos} (hu : X.A.units + 65 < cLine) (hp : as.plain = true) (hk : k ≠ .pop0) (ho : PE X o to) (ha : PA X (e :: es) t) (hb : plainBase o = true) (hl : (apos.endLine == cpos.line) = true)
    (hc : chkEs T N sc (.cons a as) (e :: es) = true) (hn : es.length < 20) : PE X (.Call (.Attribute o k.name apos) (e :: es) [] cpos) (tBM X.K k.ty (rMt X.K k) to t) := by
  have h0 := hc
  unfold chkEs at h0
  rw [Bool.and_eq_true] at h0
  cases k
  · exact pe_bm PySem.F.plainAttrs_list PySem.F.slot_list_append PySem.F.type_list_append (mt_ok hu .append) ho ha (plain_base hb) (few_star hp hc hn) hl (star_one h0.1 _ _) (any_star hp h0.2)
  · exact absurd rfl hk
  · exact pe_bm PySem.F.plainAttrs_list PySem.F.slot_list_pop PySem.F.type_list_pop (mt_ok hu .popAt) ho ha (plain_base hb) (few_star hp hc hn) hl (star_one h0.1 _ _) (any_star hp h0.2)
  · exact pe_bm PySem.F.plainAttrs_list PySem.F.slot_list_extend PySem.F.type_list_extend (mt_ok hu .extend) ho ha (plain_base hb) (few_star hp hc hn) hl (star_one h0.1 _ _) (any_star hp h0.2)
  · exact pe_bm PySem.F.plainAttrs_list PySem.F.slot_list_index PySem.F.type_list_index (mt_ok hu .index) ho ha (plain_base hb) (few_star hp hc hn) hl (star_one h0.1 _ _) (any_star hp h0.2)
  · exact pe_bm PySem.F.plainAttrs_dict PySem.F.slot_dict_get PySem.F.type_dict_get (mt_ok hu .get1) ho ha (plain_base hb) (few_star hp hc hn) hl (star_one h0.1 _ _) (any_star hp h0.2)
  · exact pe_bm PySem.F.plainAttrs_dict PySem.F.slot_dict_get PySem.F.type_dict_get (mt_ok hu .get2) ho ha (plain_base hb) (few_star hp hc hn) hl (star_one h0.1 _ _) (any_star hp h0.2)
/-- a list, a tuple, a text walked -/
theorem pi_seq {tg l : PySem.Expr} {tl : TE} (hl : PE X l tl) : PI X tg l (iSeq X.K tl) := by
  refine ⟨fun pins s σ H R I h => ?_⟩
  refine thn (hl.run pins s σ H _ I h) fun v s1 ⟨x, H1, I1, r1, q1⟩ => ?_
  rcases q1 with ⟨a, rfl, ⟨xs, hq⟩, q⟩ | ⟨a, rfl, ⟨xs, hq⟩, q⟩ | ⟨z, rfl, q⟩
  · cases r1
    obtain ⟨its, rv, p, hz⟩ := I1.list hq
    refine wpAny_pyIter_list p.isList ?_
    refine ⟨s1.heap.objs.size, [s1.heap.objs.size], _, _, H1, rfl, I1.kept (t' := s1.toks) fun b o e => Heap.get?_push_of_some _ e, turn_list a _, ⟨_, Heap.get?_push_size _ rfl, rfl, rfl⟩, fun b hb => ?_, q⟩
    rw [List.mem_singleton] at hb
    subst hb
    exact I1.fpOk (Nat.le_refl _) (I1.hok.fresh (Nat.le_refl _))
  · cases r1
    obtain ⟨its, rv, p, hz⟩ := I1.tuple hq
    refine wpAny_pyIter_tuple (show s1.heap.IsTuple a its.toArray from p) ?_
    refine ⟨s1.heap.objs.size, [s1.heap.objs.size], _, _, H1, rfl, I1.kept (t' := s1.toks) fun b o e => Heap.get?_push_of_some _ e, turn_tuple a _, ⟨_, Heap.get?_push_size _ rfl, rfl, rfl⟩, fun b hb => ?_, q⟩
    rw [List.mem_singleton] at hb
    subst hb
    exact I1.fpOk (Nat.le_refl _) (I1.hok.fresh (Nat.le_refl _))
  · obtain ⟨t, rfl⟩ := r1
    cases ha : z.cps.all (· < 128)
    · exact wpAny_pyIter_wide ha (pi_one (tk := s1.toks) I1 _ (turn_str _ z t "str_iterator" (.inr rfl)) ⟨_, Heap.get?_push_size _ rfl, rfl, rfl⟩ q)
    · exact wpAny_pyIter_ascii ha (pi_one (tk := s1.toks) I1 _ (turn_str _ z t "str_ascii_iterator" (.inl rfl)) ⟨_, Heap.get?_push_size _ rfl, rfl, rfl⟩ q)
theorem pe_conv {e : PySem.Expr} {t t' : TE} (h : PE X e t) (k : ∀ σ H Q, t' σ H Q → t σ H Q) : PE X e t' := ⟨fun pins s σ H Q I q => h.run pins s σ H Q I (k σ H Q q)⟩
theorem ps_conv {e : PySem.Stmt} {t t' : TS} (h : PS X e t) (k : ∀ D σ H, t' D σ H → t D σ H) : PS X e t' := ⟨fun pins s σ H D I q => h.run pins s σ H D I (k D σ H q)⟩
theorem pe_lk {e : PySem.Expr} {t : TE} (k : IK) (h : PE X e t) : PE X e (lkE k t) := by
  unfold lkE
  split
  · exact pe_lock h
  · exact h
theorem ps_lk {e : PySem.Stmt} {t : TS} (k : IK) (h : PS X e t) : PS X e (lkS k t) := by
  unfold lkS
  split
  · exact ps_lock h
  · exact h
theorem pe_gin {d : Addr} {es : Array DictEntry} {n : Nat} {x : Str} {l : PySem.Expr} {neg : Bool} {p : CmpOp} {q pos : Pos} {t : TE} (D : KDict X.K X.w d es n) (hg : Gl X x) (hm : X.mg x = some (.ref d)) (hd : (x == ("__debug__" : Str)) = false) (hp : p = if neg then CmpOp.NotIn else CmpOp.In) (hl : PE X l t) :
    PE X (.Compare l [p] [.Name x q] pos) (tGin X.K d neg t) := by
  have hx : PE X (.Name x q) (tC (.ref d)) := pe_glob hg hm rfl hd
  subst hp
  cases neg
  · exact pe_cmpR (r := rGin X.K d false) (op_in_kd D) hl hx rfl
  · exact pe_cmpR (r := rGin X.K d true) (op_notIn_kd D) hl hx rfl
theorem pt_gin {d : Addr} {es : Array DictEntry} {n : Nat} {x : Str} {l : PySem.Expr} {neg : Bool} {p : CmpOp} {q pos : Pos} {t : TE} (D : KDict X.K X.w d es n) (hg : Gl X x) (hm : X.mg x = some (.ref d)) (hd : (x == ("__debug__" : Str)) = false) (hp : p = if neg then CmpOp.NotIn else CmpOp.In) (hl : PE X l t) :
    PT X (.Compare l [p] [.Name x q] pos) (tTest (tGin X.K d neg t)) := by
  have hx : PE X (.Name x q) (tC (.ref d)) := pe_glob hg hm rfl hd
  subst hp
  cases neg
  · exact pt_cmpR (r := rGin X.K d false) (op_in_kd D) hl hx rfl
  · exact pt_cmpR (r := rGin X.K d true) (op_notIn_kd D) hl hx rfl
theorem pe_gix {d : Addr} {es : Array DictEntry} {n : Nat} {x : Str} {r : PySem.Expr} {q pos : Pos} {t : TE} (D : KDict X.K X.w d es n) (hg : Gl X x) (hm : X.mg x = some (.ref d)) (hd : (x == ("__debug__" : Str)) = false) (hr : PE X r t) (hs : ∀ o i, subscripted r false o i = operate [o, i] (getItem o i)) :
    PE X (.Subscript (.Name x q) r pos) (tGix X.K d t) := by
  have hx : PE X (.Name x q) (tC (.ref d)) := pe_glob hg hm rfl hd
  have ixr : IxR X (rGix X.K d) := by
    intro value slice pins s σ H x y v u Q I rx ry h hs
    obtain ⟨z, u0, v0, rfl, h2⟩ := h
    cases rx
    exact tail_any (ops := [.ref d, u]) (kd_type D I) PySem.F.slot_dict_getitem.lookup (op_item_kd D pins s σ H (.ref d) y (.ref d) u Q I rfl ry ⟨z, u0, v0, rfl, h2⟩) hs
  exact pe_ix ixr hx hr hs
theorem pe_fldC {C : Addr} {f : Str} {e : PySem.Expr} {pos : Pos} {t : TE} (c : Cls X.K C) (n : NoAttr X.K C f) (he : PE X e t) (hb : attributeBase e f X.env (eval e X.env) = eval e X.env) : PE X (.Attribute e f pos) (tFldC C f t) := by
  refine ⟨fun pins s σ H Q I h => ?_⟩
  refine attr_of hb (thn (he.run pins s σ H _ I h) ?_)
  rintro u s1 ⟨x, H1, I1, rx, a, dx, fs, v, rfl, ea, l, q⟩
  cases rx
  exact getattr_ok I1 ea c n l fun u' s2 I2 ru => ⟨v, H1, I2, ru, q⟩
end
end MP
namespace MP
open PySem L2 PyProof.Rows PySem.Spec
section
variable {T : Tab} {G : Gv} {k : Nat} {N : List Str} {n : Nat}
theorem cst_ok {X : Cx} {c : Cst} {d : Const} {j : Nat} {pos : Pos} (h : cstOk c d = true) : PE X (.Constant d j pos) (tC c.v) := by
  unfold cstOk at h
  split at h
  · exact pe_non
  · have := eq_of_beq h
    subst this
    exact pe_bl
  · have := of_decide_eq_true h
    subst this
    exact pe_int
  · have := of_decide_eq_true h
    subst this
    exact pe_str
  · cases h
theorem inv_cons {sc : Scope} {as : MEs} {e : PySem.Expr} {es : List PySem.Expr} (hp : as.plain = true) (h : chkEs T N sc as (e :: es) = true) : ∃ a r, as = .cons a r ∧ chkE T N sc a e = true ∧ chkEs T N sc r es = true ∧ r.plain = true := by
  cases as with
  | nil => simp [chkEs] at h
  | star a r => cases hp
  | cons a r =>
    unfold chkEs at h
    rw [Bool.and_eq_true] at h
    exact ⟨a, r, rfl, h.1, h.2, hp⟩
theorem pe_mk {sc : Scope} {X : Cx} {W : WX} {e : PySem.Expr} {c : Nat} {as : MEs} {kw : Bool} (C : CxOk T G k N sc X) (h : chkE T N sc (.mk c as kw) e = true) (ha : ∀ a b, as = .cons a .nil → chkE T N sc a b = true → PE X b (rdE G W a)) : PE X e (rdE G W (.mk c as kw)) := by
  generalize hm : ME.mk c as kw = m at h
  unfold chkE at h
  split at h <;> cases hm
  · simp only [Bool.and_eq_true, decide_eq_true_eq, Bool.not_eq_true'] at h
    obtain ⟨⟨⟨hh, h1⟩, h2⟩, h3⟩ := h
    obtain ⟨hg, hd, hn⟩ := gl_ok C h1
    obtain ⟨hmg, hk, hc⟩ := C.cls _ _ h2
    by_cases hv : G.hv c = true
    · rw [if_pos hv] at hc
      unfold rdE
      rw [if_pos hv]
      exact MPX.pe_mkV hc (C.room hh) hg hmg (ha _ _ rfl h3) hd (star_one h3 _ _)
    · unfold rdE
      rw [if_neg hv]
      exact ⟨fun _ _ _ _ _ _ h => h.elim⟩
  · simp only [Bool.and_eq_true, decide_eq_true_eq, Bool.not_eq_true'] at h
    obtain ⟨⟨hh, h1⟩, h2⟩ := h
    obtain ⟨hg, hd, hn⟩ := gl_ok C h1
    obtain ⟨hmg, hk, hc⟩ := C.cls _ _ h2
    by_cases hv : G.hv c = true
    · rw [if_pos hv] at hc
      unfold rdE
      rw [if_pos hv]
      exact MPX.pe_mk0 hc (C.room hh) hg hmg hd
    · rw [if_neg hv] at hc
      unfold rdE
      rw [if_neg hv]
      exact MPX.pe_mkN PySem.F.excBase_ValueError hc hmg hk hg hd
  · simp only [Bool.and_eq_true, decide_eq_true_eq, Bool.not_eq_true'] at h
    obtain ⟨⟨⟨⟨hh, h1⟩, h4⟩, h2⟩, h3⟩ := h
    subst h4
    obtain ⟨hg, hd, hn⟩ := gl_ok C h1
    obtain ⟨hmg, hk, hc⟩ := C.cls _ _ h2
    by_cases hv : G.hv c = true
    · rw [if_pos hv] at hc
      unfold rdE
      rw [if_pos hv]
      exact MPX.pe_mkK hc (C.room hh) hg hmg (ha _ _ rfl h3) hd
    · unfold rdE
      rw [if_neg hv]
      exact ⟨fun _ _ _ _ _ _ h => h.elim⟩
  · cases h
theorem meth_tree {N : List Str} {T : Tab} {sc : Scope} {X : Cx} {a : ME} {as : MEs} {o e : PySem.Expr} {es : List PySem.Expr} {m : Str} {apos pos : Pos} (hb : plainBase o = true) (hp : as.plain = true) (hc : chkEs T N sc (.cons a as) (e :: es) = true) (hn : es.length < 20) (hl : (apos.endLine == pos.line) = true) :
    eval (.Call (.Attribute o m apos) (e :: es) [] pos) X.env = (do
      let ov ← eval o X.env
      standAt apos.atName
      let (f, first) ← holding [ov] (getMethod ov m (do return (← importBound o X.env).getD true))
      callWith pos f first (backTo pos (starEach (e :: es) X.env)) (backToKw pos (keywordEach [] X.env))) := by
  have form : methodCallForm ((e :: es).length + ([] : List Keyword).length) (backTo pos (starEach (e :: es) X.env)) (backToKw pos (keywordEach [] X.env)) = true := few_star hp hc hn
  have here : methodCallPos true o X.env apos pos = pure pos := by unfold methodCallPos; simp [hl]
  have key : ∀ ov, methodCall o m apos pos X.env ov ((e :: es).length + ([] : List Keyword).length) (backTo pos (starEach (e :: es) X.env)) (backToKw pos (keywordEach [] X.env)) = (do
      let (f, first) ← holding [ov] (getMethod ov m (do return (← importBound o X.env).getD true))
      callWith pos f first (backTo pos (starEach (e :: es) X.env)) (backToKw pos (keywordEach [] X.env))) := fun ov => by
    unfold methodCall
    rw [form]
    show (do
      let (f, first) ← holding [ov] (calleeOf true o X.env ov m)
      let at_ ← methodCallPos true o X.env apos pos
      callWith at_ f first (backTo pos (starEach (e :: es) X.env)) (backToKw pos (keywordEach [] X.env))) = _
    rw [here]
    rfl
  rw [arm_eval_Call, plain_base hb]
  simp only [key]
theorem pe_step (A : All T G k N n) (m : ME) (hs : sizeOf m < n + 1) (sc : Scope) (X : Cx) (W : WX) (e : PySem.Expr) (C : CxOk T G k N sc X) (tk : Takes X W) (h : chkE T N sc m e = true) : PE X e (rdE G W m) := by
  have hu := C.hu
  unfold chkE at h
  split at h
  · exact nm_ok C h
  · exact cst_ok h
  · rw [Bool.and_eq_true] at h
    obtain ⟨hg, hd, hn⟩ := gl_ok C h.1
    obtain ⟨u, hm, r⟩ := C.glb _ _ (of_decide_eq_true h.2)
    exact pe_glob hg hm r hd
  · simp only [Bool.and_eq_true, decide_eq_true_eq] at h
    obtain ⟨⟨h1, h2⟩, h3⟩ := h
    subst h2
    obtain ⟨hg, hd, hn⟩ := gl_ok C h1
    obtain ⟨b1, b2, b3⟩ := ty_boot h3
    exact pe_bltn hg (C.tys _ h3) b1 rfl b2 b3
  · simp only [Bool.and_eq_true, decide_eq_true_eq] at h
    simp at hs
    have := op_bin (X := X) h.1.1
    rw [C.hK] at this
    exact pe_op this (A.pe _ (by omega) sc X W _ C tk h.1.2) (A.pe _ (by omega) sc X W _ C tk h.2)
  · simp only [Bool.and_eq_true, decide_eq_true_eq] at h
    simp at hs
    have := op_cmp (X := X) hu h.1.1
    rw [C.hK] at this
    exact pe_cmpR this (A.pe _ (by omega) sc X W _ C tk h.1.2) (A.pe _ (by omega) sc X W _ C tk h.2) (no_behind h.2)
  · simp only [Bool.and_eq_true, decide_eq_true_eq] at h
    simp at hs
    obtain ⟨⟨⟨⟨h1, h2⟩, h3⟩, h4⟩, h5⟩ := h
    have o1 := op_cmp (X := X) hu h1
    have o2 := op_cmp (X := X) hu h2
    rw [C.hK] at o1 o2
    exact pe_chain o1 o2 (A.pe _ (by omega) sc X W _ C tk h3) (A.pe _ (by omega) sc X W _ C tk h4) (A.pe _ (by omega) sc X W _ C tk h5) (no_last h4 h5)
  · simp at hs
    exact pe_un un_neg (A.pe _ (by omega) sc X W _ C tk h)
  · simp at hs
    show PE X _ (tNotT G.K (rdE G W _))
    rw [← C.hK]
    exact pe_notT (A.pe _ (by omega) sc X W _ C tk h)
  · simp only [Bool.and_eq_true] at h
    simp at hs
    show PE X _ (tAndT G.K (rdE G W _) (rdE G W _))
    rw [← C.hK]
    exact pe_andT (A.pe _ (by omega) sc X W _ C tk h.1) (pe_one (A.pe _ (by omega) sc X W _ C tk h.2))
  · simp only [Bool.and_eq_true] at h
    simp at hs
    show PE X _ (tAndT G.K (rdE G W _) (rdE G W _))
    rw [← C.hK]
    exact pe_andT (A.pe _ (by omega) sc X W _ C tk h.1) (A.pe _ (by omega) sc X W _ C tk h.2)
  · simp only [Bool.and_eq_true] at h
    simp at hs
    show PE X _ (tOrT G.K (rdE G W _) (rdE G W _))
    rw [← C.hK]
    exact pe_orT (A.pe _ (by omega) sc X W _ C tk h.1) (pe_one (A.pe _ (by omega) sc X W _ C tk h.2))
  · simp only [Bool.and_eq_true] at h
    simp at hs
    show PE X _ (tOrT G.K (rdE G W _) (rdE G W _))
    rw [← C.hK]
    exact pe_orT (A.pe _ (by omega) sc X W _ C tk h.1) (A.pe _ (by omega) sc X W _ C tk h.2)
  · simp only [Bool.and_eq_true] at h
    simp at hs
    exact pe_ifExp (A.pt _ (by omega) sc X W _ C tk h.1.1) (A.pe _ (by omega) sc X W _ C tk h.1.2) (A.pe _ (by omega) sc X W _ C tk h.2)
  · simp at hs
    exact pe_tup (A.pa _ (by omega) sc X W _ C tk h)
  · simp at hs
    exact pe_lst (A.pa _ (by omega) sc X W _ C tk h)
  · simp only [Bool.and_eq_true] at h
    simp at hs
    have i1 := IxR.or ix_seq (ix_dict (X := X) (by omega))
    rw [C.hK] at i1
    exact pe_ix i1 (A.pe _ (by omega) sc X W _ C tk h.1) (A.pe _ (by omega) sc X W _ C tk h.2) (plain_ix h.2)
  · simp only [Bool.and_eq_true] at h
    simp at hs
    have i1 : SlR X (rSl X.K) := SlR.or sl_list (SlR.or sl_tupA sl_str)
    rw [C.hK] at i1
    exact pe_slice i1 (A.pe _ (by omega) sc X W _ C tk h.1.1) (A.po _ (by omega) sc X W _ C tk h.1.2) (A.po _ (by omega) sc X W _ C tk h.2)
  · simp only [Bool.and_eq_true, decide_eq_true_eq] at h
    simp at hs
    obtain ⟨⟨⟨⟨hh, h1⟩, h2⟩, hp⟩, h3⟩ := h
    subst h2
    have h0 := h3
    obtain ⟨hg, hd, hn⟩ := gl_ok C h1
    have ha := A.pa _ (by omega) sc X W _ C tk h3
    obtain ⟨a, as, q, g1, g2, g3⟩ := inv_cons hp h3
    show PE X _ (tCB (rBi G.K _) _)
    rw [← C.hK]
    exact pe_bi (fun nb => C.calm (by cases hx : T.hot <;> simp_all)) hu C.gds hg (C.blt _) ha (star_one g1 _ _) (any_star g3 g2)
  · simp only [Bool.and_eq_true, decide_eq_true_eq] at h
    simp at hs
    obtain ⟨⟨⟨⟨⟨⟨⟨h1, h2⟩, h3⟩, h4⟩, h5⟩, h6⟩, hp⟩, h7⟩ := h
    subst h2
    show PE X _ (tBM G.K _ (rMt G.K _) (rdE G W _) _)
    rw [← C.hK]
    exact pe_mt hu hp h3 (A.pe _ (by omega) sc X W _ C tk h6) (A.pa (.cons _ _) (by simp; omega) sc X W _ C tk h7) h1 h4 h7 h5
  · simp only [Bool.and_eq_true, decide_eq_true_eq] at h
    simp at hs
    obtain ⟨⟨⟨h1, h2⟩, h3⟩, h4⟩ := h
    subst h2
    show PE X _ (tBM0 G.K _ (rMt G.K .pop0) (rdE G W _))
    rw [← C.hK]
    exact pe_bm0 (X := X) PySem.F.plainAttrs_list PySem.F.slot_list_pop PySem.F.type_list_pop (mt_ok hu .pop0) (A.pe _ (by omega) sc X W _ C tk h4) (plain_base h1) h3
  · simp only [Bool.and_eq_true, decide_eq_true_eq] at h
    simp at hs
    obtain ⟨⟨⟨h1, h2⟩, h3⟩, h4⟩ := h
    subst h2
    exact pe_bits (A.pe _ (by omega) sc X W _ C tk h4) (plain_base h1) h3
  · simp only [Bool.and_eq_true, decide_eq_true_eq, Bool.not_eq_true'] at h
    simp at hs
    obtain ⟨⟨⟨⟨hh, h1⟩, h2⟩, hp⟩, h3⟩ := h
    obtain ⟨hg, hd, hn⟩ := gl_ok C h1
    obtain ⟨a, fd, ps, hm, hk, hb, F⟩ := C.fn _ _ h2
    have ha := A.pa _ (by omega) sc X W _ C tk h3
    obtain ⟨a', as', q, g1, g2, g3⟩ := inv_cons hp h3
    exact MPX.pe_callG F (C.room hh) C.gds hg hm hk hb (fun σ => passAt tk σ) ha hd (star_one g1 _ _) (any_star g3 g2)
  · simp only [Bool.and_eq_true, decide_eq_true_eq, Bool.not_eq_true'] at h
    obtain ⟨⟨hh, h1⟩, h2⟩ := h
    obtain ⟨hg, hd, hn⟩ := gl_ok C h1
    obtain ⟨a, fd, ps, hm, hk, hb, F⟩ := C.fn _ _ h2
    exact MPX.pe_callG0 F (C.room hh) C.gds hg hm hk hb (fun σ => passAt tk σ) hd
  · rename_i c a x p e pos
    have h0 : chkE T N sc (.mk c (.cons a .nil) false) (.Call (.Name x p) [e] [] pos) = true := by unfold chkE; exact h
    exact pe_mk C h0 fun a b ea hb => by cases ea; exact A.pe _ (by simp at hs ⊢; omega) sc X W _ C tk hb
  · rename_i c x p pos
    have h0 : chkE T N sc (.mk c .nil false) (.Call (.Name x p) [] [] pos) = true := by unfold chkE; exact h
    exact pe_mk C h0 fun a b ea hb => by cases ea
  · rename_i c a x p n e kp pos
    have h0 : chkE T N sc (.mk c (.cons a .nil) true) (.Call (.Name x p) [] [⟨some n, e, kp⟩] pos) = true := by unfold chkE; exact h
    exact pe_mk C h0 fun a b ea hb => by cases ea; exact A.pe _ (by simp at hs ⊢; omega) sc X W _ C tk hb
  · simp only [Bool.and_eq_true, decide_eq_true_eq] at h
    simp at hs
    obtain ⟨⟨h1, h2⟩, h3⟩ := h
    subst h1
    show PE X _ (MPX.tVal G.K (rdE G W _))
    rw [← C.hK]
    exact MPX.pe_val (A.pe _ (by omega) sc X W _ C tk h3) (plain_base h2)
  · rw [Bool.and_eq_true] at h
    simp at hs
    have hop := MPX.op_eqX (X := X) (by omega)
    rw [C.hK] at hop
    exact pe_cmpR hop (A.pe _ (by omega) sc X W _ C tk h.1) (A.pe _ (by omega) sc X W _ C tk h.2) (no_behind h.2)
  · simp only [Bool.and_eq_true, Bool.not_eq_true'] at h
    simp at hs
    obtain ⟨⟨⟨⟨⟨⟨⟨⟨hh, h1⟩, h2⟩, h3⟩, hq⟩, h4⟩, h5⟩, h6⟩, h7⟩ := h
    have Cb := fun (s : Shared) (H : Hp) (Ca : Addr) (cl : List (Str × Addr)) (fp : List Addr) (scope : Scope) => CxOk.blk (s := s) (H := H) (scope := scope) (cl := cl) (Ca := Ca) (fp := fp) C
    refine pe_lk _ (pe_lc (C.calm hh) (by rw [C.hN]; exact C.nd) (A.pi _ (by omega) _ sc X W _ _ C tk hq h4) (blkOk_by (by rw [C.hN, C.hsc]; exact h1)) (fun s H Ca cl fp => ?_) (fun s H Ca cl fp => ?_) (fun s H Ca cl fp => ?_) (no_fold h5))
    · exact tg_ok (Cb s H Ca cl fp _) h2 (.inr h3) hh
    · exact A.pf _ (by omega) _ _ _ _ (Cb s H Ca cl fp _) takes0 h6
    · exact A.pe _ (by omega) _ _ _ _ (Cb s H Ca cl fp _) takes0 h7
  · simp only [Bool.and_eq_true, decide_eq_true_eq] at h
    simp at hs
    obtain ⟨⟨⟨h1, h2⟩, h3⟩, h4⟩ := h
    obtain ⟨hg, hd, hn⟩ := gl_ok C h2
    obtain ⟨hm, es, n, D⟩ := C.kds _ _ h3
    show PE X _ (tGin G.K _ _ _)
    rw [← C.hK]
    exact pe_gin D hg hm hd h1 (A.pe _ (by omega) sc X W _ C tk h4)
  · simp only [Bool.and_eq_true, decide_eq_true_eq] at h
    simp at hs
    obtain ⟨⟨h2, h3⟩, h4⟩ := h
    obtain ⟨hg, hd, hn⟩ := gl_ok C h2
    obtain ⟨hm, es, n, D⟩ := C.kds _ _ h3
    show PE X _ (tGix G.K _ _)
    rw [← C.hK]
    exact pe_gix D hg hm hd (A.pe _ (by omega) sc X W _ C tk h4) (plain_ix h4)
  · simp only [Bool.and_eq_true, decide_eq_true_eq, Bool.not_eq_true'] at h
    simp at hs
    obtain ⟨⟨⟨⟨⟨hh, h1⟩, h2⟩, h3⟩, hp⟩, h4⟩ := h
    obtain ⟨hg, hd, hn⟩ := gl_ok C h1
    have hm := C.kls _ _ h2
    obtain ⟨c, a, fd, ps, mt, mk, hb, F⟩ := C.mth _ _ _ h3
    have ha := A.pa _ (by omega) sc X W _ C tk h4
    obtain ⟨a', as', q, g1, g2, g3⟩ := inv_cons hp h4
    exact MPX.pe_makeG (mk rfl) F (C.room1 hh) C.gds hg hm hb (fun σ => passAt tk σ) ha hd (star_one g1 _ _) (any_star g3 g2)
  · simp only [Bool.and_eq_true, decide_eq_true_eq, Bool.not_eq_true'] at h
    simp at hs
    obtain ⟨⟨⟨⟨⟨⟨⟨⟨hh, h1⟩, h2⟩, h3⟩, h4⟩, h5⟩, h6⟩, hp⟩, h7⟩ := h
    subst h2
    obtain ⟨c, a, fd, ps, mt, mk, hb, F⟩ := C.mth _ _ _ h3
    have h70 := h7
    unfold chkEs at h7
    rw [Bool.and_eq_true] at h7
    exact MPX.pe_methG (A.pe _ (by omega) sc X W _ C tk h6) c mt F (C.room hh) C.gds hb (fun σ => passAt tk σ) (A.pa (.cons _ _) (by simp; omega) sc X W _ C tk h70) (star_one h7.1 _ _) (any_star hp h7.2) (meth_tree h1 hp h70 h5 h4)
  · simp only [Bool.and_eq_true, decide_eq_true_eq] at h
    simp at hs
    obtain ⟨⟨⟨h1, h2⟩, h3⟩, h4⟩ := h
    subst h1
    obtain ⟨c, n⟩ := C.fds _ _ h2
    exact pe_fldC c n (A.pe _ (by omega) sc X W _ C tk h4) (plain_base h3)
  · exact ⟨fun _ _ _ _ _ _ h => h.elim⟩
  · rename_i u mf a
    simp at hs
    rw [Bool.and_eq_true, Bool.not_eq_true'] at h
    obtain ⟨hh, h⟩ := h
    cases hq : u1E sc u e with
    | none => rw [hq] at h; cases h
    | some l =>
      rw [hq] at h
      have pl := A.pe _ (by omega) sc X W _ C tk h
      have hq' : u1E X.env.scope u e = some l := by rw [C.hsc]; exact hq
      have z := u1_ok (C.calm hh) hu (C.blt .set) (C.blt .len) (C.blt .sorted) (C.blt .list) C.rng (fun x hx => (gl_ok C (by rw [C.hsc] at hx; exact hx)).1) hq' pl (star_one h _ _)
      rw [C.hK] at z
      exact z
  · unfold rdE
    split
    · exact pe_dnewT
    · exact pe_dnewK
  · simp only [Bool.and_eq_true, Bool.not_eq_true'] at h
    simp at hs
    obtain ⟨⟨⟨⟨⟨⟨⟨⟨⟨hh, h1⟩, h2⟩, h3⟩, hq⟩, h4⟩, h5⟩, h6⟩, h7⟩, h8⟩ := h
    have Cb := fun (s : Shared) (H : Hp) (Ca : Addr) (cl : List (Str × Addr)) (fp : List Addr) (scope : Scope) => CxOk.blk (s := s) (H := H) (scope := scope) (cl := cl) (Ca := Ca) (fp := fp) C
    refine pe_lk _ (pe_dc (C.calm hh) (by rw [C.hN]; exact C.nd) (A.pi _ (by omega) _ sc X W _ _ C tk hq h4) (blkOk_by (by rw [C.hN, C.hsc]; exact h1)) (fun s H Ca cl fp => ?_) (fun s H Ca cl fp => ?_) (fun s H Ca cl fp => ?_) (fun s H Ca cl fp => ?_) (no_fold h5))
    · exact tg_ok (Cb s H Ca cl fp _) h2 (.inr h3) hh
    · exact A.pf _ (by omega) _ _ _ _ (Cb s H Ca cl fp _) takes0 h6
    · exact A.pe _ (by omega) _ _ _ _ (Cb s H Ca cl fp _) takes0 h7
    · exact A.pe _ (by omega) _ _ _ _ (Cb s H Ca cl fp _) takes0 h8
  · cases h
end
end MP
namespace MP
open PySem L2 PyProof.Rows PySem.Spec
section
variable {T : Tab} {G : Gv} {k : Nat} {N : List Str} {n : Nat}
theorem pt_no {X : Cx} {e : PySem.Expr} : PT X e (fun _ _ _ => False) := ⟨fun _ _ _ _ _ _ h => h.elim⟩
theorem pw_no {X : Cx} {op : PySem.BoolOp} {l : List PySem.Expr} {pos : Pos} : PW X (.BoolOp op l pos) (fun _ _ _ => False) := ⟨fun _ _ _ _ _ _ _ h => h.elim⟩
theorem u1_bool {sc : Scope} {u : U1} {op : PySem.BoolOp} {l : List PySem.Expr} {pos : Pos} : u1E sc u (.BoolOp op l pos) = none := by cases u <;> rfl
theorem u1_true {sc : Scope} {u : U1} {e l : PySem.Expr} {env : Env} (h : u1E sc u e = some l) (x : Sem Value) : PySem.isTrue e env x = (do
    let v ← x
    standAt e.pos
    holding [v] (truthy v)) := by
  unfold u1E at h
  split at h <;> first | rfl | cases h
theorem pw_step (A : All T G k N n) (m : ME) (hs : sizeOf m < n + 1) (sc : Scope) (X : Cx) (W : WX) (op : PySem.BoolOp) (l : List PySem.Expr) (pos : Pos) (C : CxOk T G k N sc X) (tk : Takes X W) (h : chkE T N sc m (.BoolOp op l pos) = true) : PW X (.BoolOp op l pos) (rdT G W m) := by
  generalize he : PySem.Expr.BoolOp op l pos = e at h
  unfold chkE at h
  split at h <;> cases he
  · simp only [Bool.and_eq_true] at h
    simp at hs
    exact pw_and (A.pt _ (by omega) sc X W _ C tk h.1) (pw_and1 (A.pt _ (by omega) sc X W _ C tk h.2))
  · simp only [Bool.and_eq_true] at h
    simp at hs
    exact pw_and (A.pt _ (by omega) sc X W _ C tk h.1) (A.pw _ (by omega) sc X W _ _ _ C tk h.2)
  · simp only [Bool.and_eq_true] at h
    simp at hs
    exact pw_or (A.pt _ (by omega) sc X W _ C tk h.1) (pw_or1 (A.pt _ (by omega) sc X W _ C tk h.2))
  · simp only [Bool.and_eq_true] at h
    simp at hs
    exact pw_or (A.pt _ (by omega) sc X W _ C tk h.1) (A.pw _ (by omega) sc X W _ _ _ C tk h.2)
  · exact pw_no
  · rw [u1_bool, Bool.and_false] at h; cases h
  · cases h
theorem pt_step (A : All T G k N n) (m : ME) (hs : sizeOf m < n + 1) (sc : Scope) (X : Cx) (W : WX) (e : PySem.Expr) (C : CxOk T G k N sc X) (tk : Takes X W) (h : chkE T N sc m e = true) : PT X e (rdT G W m) := by
  have hu := C.hu
  have hpe := pe_step A m hs sc X W e C tk h
  have h0 := h
  unfold chkE at h
  split at h
  · show PT X _ (tTru G.K (tVar _)); rw [← C.hK]; exact pt_truth hpe (fun _ => rfl)
  · show PT X _ (tTru G.K (tC _)); rw [← C.hK]; exact pt_truth hpe (fun _ => rfl)
  · show PT X _ (tTru G.K (tC _)); rw [← C.hK]; exact pt_truth hpe (fun _ => rfl)
  · exact pt_no
  · rename_i o mf a b l p r pos
    simp only [Bool.and_eq_true, decide_eq_true_eq] at h
    have hc : o.cmp.isSome = false := by
      cases o <;> first | rfl | cases h.1.1
    unfold rdT
    rw [hc]
    show PT X _ (tTru G.K _); rw [← C.hK]
    have hpe' : PE X (.BinOp l p r pos) (tOp (r2 X.K o) (rdE G W a) (rdE G W b)) := by rw [C.hK]; exact hpe
    exact pt_truth hpe' (fun _ => rfl)
  · rename_i o mf a b l p r pos
    simp only [Bool.and_eq_true, decide_eq_true_eq] at h
    simp at hs
    have hc : o.cmp.isSome = true := by rw [h.1.1]; rfl
    unfold rdT
    rw [hc, if_pos rfl]
    have := op_cmp (X := X) hu h.1.1
    rw [C.hK] at this
    exact pt_cmpR this (A.pe _ (by omega) sc X W _ C tk h.1.2) (A.pe _ (by omega) sc X W _ C tk h.2) (no_behind h.2)
  · simp only [Bool.and_eq_true, decide_eq_true_eq] at h
    simp at hs
    obtain ⟨⟨⟨⟨h1, h2⟩, h3⟩, h4⟩, h5⟩ := h
    have o1 := op_cmp (X := X) hu h1
    have o2 := op_cmp (X := X) hu h2
    rw [C.hK] at o1 o2
    exact pt_chain o1 o2 (A.pe _ (by omega) sc X W _ C tk h3) (A.pe _ (by omega) sc X W _ C tk h4) (A.pe _ (by omega) sc X W _ C tk h5) (no_last h4 h5)
  · exact pt_no
  · simp at hs
    exact pt_not (A.pt _ (by omega) sc X W _ C tk h)
  · exact (pw_step A _ hs sc X W _ _ _ C tk h0).pt
  · exact (pw_step A _ hs sc X W _ _ _ C tk h0).pt
  · exact (pw_step A _ hs sc X W _ _ _ C tk h0).pt
  · exact (pw_step A _ hs sc X W _ _ _ C tk h0).pt
  · exact pt_no
  · exact pt_no
  · exact pt_no
  · rename_i a b l r pos
    have hpe' : PE X (.Subscript l r pos) (tOp (rIxA X.K) (rdE G W a) (rdE G W b)) := by rw [C.hK]; exact hpe
    show PT X _ (tTru G.K _); rw [← C.hK]; exact pt_truth hpe' (fun _ => rfl)
  · exact pt_no
  · rename_i b _ as x p1 e es p2
    have hpe' : PE X (.Call (.Name x p1) (e :: es) [] p2) (tCB (rBi X.K b) (rdEs G W as)) := by rw [C.hK]; exact hpe
    show PT X _ (tTru G.K _); rw [← C.hK]; exact pt_truth hpe' (fun _ => rfl)
  · exact pt_no
  · exact pt_no
  · exact pt_no
  · show PT X _ (tTru G.K _); rw [← C.hK]; exact pt_truth hpe (fun _ => rfl)
  · show PT X _ (tTru G.K _); rw [← C.hK]; exact pt_truth hpe (fun _ => rfl)
  · exact pt_no
  · exact pt_no
  · exact pt_no
  · rename_i a e f pos
    have hpe' : PE X (.Attribute e f pos) (MPX.tVal X.K (rdE G W a)) := by rw [C.hK]; exact hpe
    show PT X _ (tTru G.K (MPX.tVal G.K _)); rw [← C.hK]; exact pt_truth hpe' (fun _ => rfl)
  · exact pt_no
  · exact pt_no
  · simp only [Bool.and_eq_true, decide_eq_true_eq] at h
    simp at hs
    obtain ⟨⟨⟨h1, h2⟩, h3⟩, h4⟩ := h
    obtain ⟨hg, hd, hn⟩ := gl_ok C h2
    obtain ⟨hm, es, n, D⟩ := C.kds _ _ h3
    show PT X _ (tTest (tGin G.K _ _ _))
    rw [← C.hK]
    exact pt_gin D hg hm hd h1 (A.pe _ (by omega) sc X W _ C tk h4)
  · exact pt_no
  · exact pt_no
  · show PT X _ (tTru G.K _); rw [← C.hK]; exact pt_truth hpe (fun _ => rfl)
  · show PT X _ (tTru G.K _); rw [← C.hK]; exact pt_truth hpe (fun _ => rfl)
  · exact pt_no
  · rename_i u mf a
    have hh := (Bool.and_eq_true_iff.mp h).2
    have hpe' : PE X e (fun σ H Q => rdE G W a σ H fun x H1 => rU1 X.K u x H1 Q) := by rw [C.hK]; exact hpe
    show PT X _ (tTru G.K _); rw [← C.hK]; exact pt_truth hpe' (u1_true (sc := sc) (u := u) (l := (u1E sc u e).get (by cases q : u1E sc u e <;> simp_all)) (by simp))
  · exact pt_no
  · exact pt_no
  · cases h
theorem pa_step (A : All T G k N n) (m : MEs) (hs : sizeOf m < n + 1) (sc : Scope) (X : Cx) (W : WX) (e : List PySem.Expr) (C : CxOk T G k N sc X) (tk : Takes X W) (h : chkEs T N sc m e = true) : PA X e (rdEs G W m) := by
  unfold chkEs at h
  split at h
  · exact pa_nil
  · rw [Bool.and_eq_true] at h
    simp at hs
    show PA X _ (StX.tStar G.K (rdE G W _) (rdEs G W _))
    rw [← C.hK]
    exact StX.pa_star (A.pe _ (by omega) sc X W _ C tk h.1) (A.pa _ (by omega) sc X W _ C tk h.2)
  · rw [Bool.and_eq_true] at h
    simp at hs
    exact pa_cons (A.pe _ (by omega) sc X W _ C tk h.1) (A.pa _ (by omega) sc X W _ C tk h.2) (star_one h.1 _ _)
  · cases h
theorem po_step (A : All T G k N n) (m : MO) (hs : sizeOf m < n + 1) (sc : Scope) (X : Cx) (W : WX) (e : Option PySem.Expr) (C : CxOk T G k N sc X) (tk : Takes X W) (h : chkO T N sc m e = true) : PO X e (rdO G W m) := by
  unfold chkO at h
  split at h
  · exact po_none
  · simp at hs
    exact po_some (A.pe _ (by omega) sc X W _ C tk h)
  · cases h
theorem pf_step (A : All T G k N n) (m : MO) (hs : sizeOf m < n + 1) (sc : Scope) (X : Cx) (W : WX) (e : List PySem.Expr) (C : CxOk T G k N sc X) (tk : Takes X W) (h : chkIf T N sc m e = true) : PTs X e (rdIf G W m) := by
  unfold chkIf at h
  split at h
  · exact pts_nil
  · simp at hs
    exact pts_one (A.pt _ (by omega) sc X W _ C tk h)
  · cases h
theorem pi_step (A : All T G k N n) (m : MEs) (hs : sizeOf m < n + 1) (q : IK) (sc : Scope) (X : Cx) (W : WX) (tg e : PySem.Expr) (C : CxOk T G k N sc X) (tk : Takes X W) (ht : tgTup q tg = true) (h : chkI T N sc q m e = true) : PI X tg e (rdI G W q m) := by
  unfold chkI at h
  split at h
  · simp at hs
    show PI X tg _ (iSeq G.K _); rw [← C.hK]; exact pi_seq (A.pe _ (by omega) sc X W _ C tk h)
  · simp at hs
    show PI X tg _ (iTup G.K _); rw [← C.hK]; exact pi_tup (A.pe _ (by omega) sc X W _ C tk h)
  · simp only [Bool.and_eq_true, decide_eq_true_eq] at h
    simp at hs
    obtain ⟨⟨h1, h2⟩, h3⟩ := h
    subst h2
    exact pi_range1 (gl_ok C h1).1 C.rng (pa_cons (A.pe _ (by omega) sc X W _ C tk h3) pa_nil (star_one h3 _ _)) (star_one h3 _ _)
  · simp only [Bool.and_eq_true, decide_eq_true_eq] at h
    simp at hs
    obtain ⟨⟨⟨h1, h2⟩, h3⟩, h4⟩ := h
    subst h2
    refine pi_range2 (gl_ok C h1).1 C.rng (pa_cons (A.pe _ (by omega) sc X W _ C tk h3) (pa_cons (A.pe _ (by omega) sc X W _ C tk h4) pa_nil (star_one h4 _ _)) (star_one h3 _ _)) ?_ (star_one h4 _ _)
    rw [star_one h3, star_one h4]
    rfl
  · simp only [Bool.and_eq_true, decide_eq_true_eq] at h
    simp at hs
    obtain ⟨⟨h1, h2⟩, h3⟩ := h
    subst h2
    unfold tgTup at ht
    split at ht <;> try (cases ht; done)
    · show PI X _ _ (iEnum G.K _); rw [← C.hK]; exact pi_enum (gl_ok C h1).1 C.enu (pa_cons (A.pe _ (by omega) sc X W _ C tk h3) pa_nil (star_one h3 _ _)) (star_one h3 _ _)
    all_goals (rename_i q1 q2 q3 q4; first | exact absurd rfl q1 | exact absurd rfl q2 | exact absurd rfl q3 | exact absurd rfl q4 | contradiction)
  · simp only [Bool.and_eq_true, decide_eq_true_eq] at h
    simp at hs
    obtain ⟨⟨⟨h1, h2⟩, h3⟩, h4⟩ := h
    subst h2
    unfold tgTup at ht
    split at ht <;> try (cases ht; done)
    · rename_i q; cases q
    · show PI X _ _ (iZip G.K _); rw [← C.hK]
      refine pi_zip (gl_ok C h1).1 C.zp (pa_cons (A.pe _ (by omega) sc X W _ C tk h3) (pa_cons (A.pe _ (by omega) sc X W _ C tk h4) pa_nil (star_one h4 _ _)) (star_one h3 _ _)) (star_one h3 _ _) ?_
      rw [star_one h4]
      rfl
    all_goals (rename_i q1 q2 q3 q4; first | exact absurd rfl q1 | exact absurd rfl q2 | exact absurd rfl q3 | exact absurd rfl q4 | contradiction)
  · simp only [Bool.and_eq_true, decide_eq_true_eq] at h
    simp at hs
    obtain ⟨⟨⟨⟨h1, h2⟩, h3⟩, h4⟩, h5⟩ := h
    subst h2 h3
    unfold tgTup at ht
    split at ht <;> try (cases ht; done)
    · rename_i q; cases q
    · rename_i q; cases q
    · show PI X _ _ (MPZ.iZipS G.K _); rw [← C.hK]
      refine MPZ.pi_zipS (gl_ok C h1).1 C.zp (pa_cons (A.pe _ (by omega) sc X W _ C tk h4) (pa_cons (A.pe _ (by omega) sc X W _ C tk h5) pa_nil (star_one h5 _ _)) (star_one h4 _ _)) (star_one h4 _ _) ?_
      rw [star_one h5]
      rfl
    all_goals (rename_i q1 q2 q3 q4 q5; first | exact absurd rfl q1 | exact absurd rfl q2 | exact absurd rfl q3 | exact absurd rfl q4 | exact absurd rfl q5 | contradiction)
  · simp only [Bool.and_eq_true, decide_eq_true_eq] at h
    simp at hs
    obtain ⟨⟨⟨h1, h2⟩, h3⟩, h4⟩ := h
    subst h2
    unfold tgTup at ht
    split at ht <;> try (cases ht; done)
    · rename_i q; cases q
    · rename_i q; cases q
    · rename_i q; cases q
    · exact pi_items (A.pe _ (by omega) sc X W _ C tk h4) (plain_base h1) h3
    all_goals (rename_i q1 q2 q3 q4 q5; first | exact absurd rfl q1 | exact absurd rfl q2 | exact absurd rfl q3 | exact absurd rfl q4 | exact absurd rfl q5 | contradiction)
  · simp only [Bool.and_eq_true, decide_eq_true_eq] at h
    simp at hs
    obtain ⟨⟨⟨h1, h2⟩, h3⟩, h4⟩ := h
    subst h2
    exact pi_values (A.pe _ (by omega) sc X W _ C tk h4) (plain_base h1) h3
  · cases h
theorem all_ok (T : Tab) (G : Gv) (k : Nat) (N : List Str) : ∀ n, All T G k N n
  | 0 => ⟨fun _ h => by omega, fun _ h => by omega, fun _ h => by omega, fun _ h => by omega, fun _ h => by omega, fun _ h => by omega, fun _ h => by omega⟩
  | n + 1 =>
    have A := all_ok T G k N n
    ⟨pe_step A, pt_step A, pw_step A, pa_step A, po_step A, pf_step A, pi_step A⟩
theorem pe_ok {sc : Scope} {X : Cx} {W : WX} {m : ME} {e : PySem.Expr} (C : CxOk T G k N sc X) (tk : Takes X W) (h : chkE T N sc m e = true) : PE X e (rdE G W m) := (all_ok T G k N _).pe m (Nat.lt_succ_self _) sc X W e C tk h
theorem pt_ok {sc : Scope} {X : Cx} {W : WX} {m : ME} {e : PySem.Expr} (C : CxOk T G k N sc X) (tk : Takes X W) (h : chkE T N sc m e = true) : PT X e (rdT G W m) := (all_ok T G k N _).pt m (Nat.lt_succ_self _) sc X W e C tk h
theorem pas_ok {sc : Scope} {X : Cx} {W : WX} {m : MEs} {e : List PySem.Expr} (C : CxOk T G k N sc X) (tk : Takes X W) (h : chkEs T N sc m e = true) : PA X e (rdEs G W m) := (all_ok T G k N _).pa m (Nat.lt_succ_self _) sc X W e C tk h
theorem pi_ok {sc : Scope} {X : Cx} {W : WX} {m : MEs} {q : IK} {tg e : PySem.Expr} (C : CxOk T G k N sc X) (tk : Takes X W) (ht : tgTup q tg = true) (h : chkI T N sc q m e = true) : PI X tg e (rdI G W q m) := (all_ok T G k N _).pi m (Nat.lt_succ_self _) q sc X W tg e C tk ht h
end
end MP
namespace MP
open PySem L2 PyProof.Rows PySem.Spec
def isStar : PySem.Expr → Bool | .Starred .. => true | _ => false
/-- the local names among the targets that stand on the first one's row -/
def swNames (sc : Scope) (ts : List PySem.Expr) : List Str :=
  ts.filterMap fun
    | .Name id pos => if sc.names.lookup id == some .local && pos.line == (ts.head?.map (·.pos.line)).getD 0 then some id else none
    | _ => none
def swIs (sc : Scope) (ts vs : List PySem.Expr) : Bool :=
  (ts.length == 2 || ts.length == 3) && vs.length == ts.length && !(vs.any isStar) && (swNames sc ts).length == ts.length && (swNames sc ts).eraseDups.length == (swNames sc ts).length && !(vs.all (foldedForSure 8)) && !(vs.all (constantsAlone 8))
def swNo (sc : Scope) (ts vs : List PySem.Expr) : Bool :=
  !(ts.length == 2 || ts.length == 3) || vs.length != ts.length || vs.any isStar || (swNames sc ts).length != ts.length || (swNames sc ts).eraseDups.length != (swNames sc ts).length || vs.all (foldedForSure 8)
theorem sw_yes {sc : Scope} {env : Env} {ts vs : List PySem.Expr} {k k2 : Nat} {p p2 : Pos} (he : env.scope = sc) (hb : env.blockKind = .function) (h : swIs sc ts vs = true) : swappedStores [.Tuple ts k p] (.Tuple vs k2 p2) env = pure (some (swNames sc ts)) := by
  subst he
  unfold swIs at h
  simp only [Bool.and_eq_true, Bool.not_eq_true'] at h
  obtain ⟨⟨⟨⟨⟨⟨h1, h2⟩, h3⟩, h4⟩, h5⟩, h6⟩, h7⟩ := h
  unfold swappedStores
  show (if (!(ts.length == 2 || ts.length == 3) || vs.length != ts.length || env.blockKind != .function) = true then pure none else if vs.any isStar = true then pure none
    else if ((swNames env.scope ts).length != ts.length || (swNames env.scope ts).eraseDups.length != (swNames env.scope ts).length) = true then pure none
    else if vs.all (foldedForSure 8) = true then pure none else if vs.all (constantsAlone 8) = true then (do unsupported "assign.tuple-of-constant-expressions:order-of-the-stores"; pure (some (swNames env.scope ts))) else pure (some (swNames env.scope ts)) : Sem (Option (List Str))) = _
  rw [if_neg (by rw [h1, hb]; simp [eq_of_beq h2]), if_neg (by rw [h3]; simp), if_neg (by simp [eq_of_beq h4, eq_of_beq h5]), if_neg (by rw [h6]; simp), if_neg (by rw [h7]; simp)]
theorem sw_no {sc : Scope} {env : Env} {ts vs : List PySem.Expr} {k k2 : Nat} {p p2 : Pos} (he : env.scope = sc) (h : swNo sc ts vs = true) : swappedStores [.Tuple ts k p] (.Tuple vs k2 p2) env = pure none := by
  subst he
  unfold swNo at h
  unfold swappedStores
  show (if (!(ts.length == 2 || ts.length == 3) || vs.length != ts.length || env.blockKind != .function) = true then pure none else if vs.any isStar = true then pure none
    else if ((swNames env.scope ts).length != ts.length || (swNames env.scope ts).eraseDups.length != (swNames env.scope ts).length) = true then pure none
    else if vs.all (foldedForSure 8) = true then pure none else if vs.all (constantsAlone 8) = true then (do unsupported "assign.tuple-of-constant-expressions:order-of-the-stores"; pure (some (swNames env.scope ts))) else pure (some (swNames env.scope ts)) : Sem (Option (List Str))) = _
  by_cases c1 : (!(ts.length == 2 || ts.length == 3) || vs.length != ts.length || env.blockKind != .function) = true
  · rw [if_pos c1]
  · rw [if_neg c1]
    by_cases c2 : vs.any isStar = true
    · rw [if_pos c2]
    · rw [if_neg c2]
      by_cases c3 : ((swNames env.scope ts).length != ts.length || (swNames env.scope ts).eraseDups.length != (swNames env.scope ts).length) = true
      · rw [if_pos c3]
      · rw [if_neg c3]
        by_cases c4 : vs.all (foldedForSure 8) = true
        · rw [if_pos c4]
        · exfalso
          simp only [Bool.or_eq_true, not_or] at h c1 c3
          rcases h with ((((h | h) | h) | h) | h) | h
          · exact c1.1.1 h
          · exact c1.1.2 h
          · exact c2 h
          · exact c3.1 h
          · exact c3.2 h
          · exact c4 h
/-- a tuple of targets, the value written otherwise than as a tuple -/
def isTupE : PySem.Expr → Bool | .Tuple .. => true | _ => false
theorem sw_other {env : Env} {t v : PySem.Expr} (h : isTupE v = false) : swappedStores [t] v env = pure none := by
  cases v <;> first | (exact Bool.noConfusion h) | (cases t <;> rfl)
theorem sw_name {env : Env} {x : Str} {p : Pos} {v : PySem.Expr} : swappedStores [.Name x p] v env = pure none := by
  cases v <;> rfl
theorem sw_sub {env : Env} {a i : PySem.Expr} {p : Pos} {v : PySem.Expr} : swappedStores [.Subscript a i p] v env = pure none := by
  cases v <;> rfl
def isComp : PySem.Expr → Bool | .ListComp .. => true | .SetComp .. => true | .DictComp .. => true | _ => false
theorem swaps_no {env : Env} {v : PySem.Expr} {t : Option PySem.Expr} {l : Nat} (h : isComp v = false) : swapsWith v t l env = pure false := by
  cases v <;> first | rfl | cases h
theorem swaps_sub {env : Env} {v a i : PySem.Expr} {p : Pos} {l : Nat} : swapsWith v (some (.Subscript a i p)) l env = pure false := by
  cases v <;> rfl
theorem swaps_tup {env : Env} {v : PySem.Expr} {ts : List PySem.Expr} {k : Nat} {p : Pos} {l : Nat} : swapsWith v (some (.Tuple ts k p)) l env = pure false := by
  cases v <;> rfl
theorem sole_tup {env : Env} {v : PySem.Expr} {ts : List PySem.Expr} {k : Nat} {p : Pos} {l : Nat} : swapsWithSole [.Tuple ts k p] v l env = pure false := by
  cases v <;> rfl
theorem sole_no {env : Env} {v t : PySem.Expr} {l : Nat} (h : isComp v = false) : swapsWithSole [t] v l env = pure false := by
  cases v <;> first | rfl | cases h
def isNmE : PySem.Expr → Bool | .Name .. => true | _ => false
theorem sole_sub {env : Env} {v a i : PySem.Expr} {p : Pos} {l : Nat} : swapsWithSole [.Subscript a i p] v l env = pure false := by
  cases v <;> rfl
theorem sole_atr {env : Env} {v a : PySem.Expr} {f : Str} {p : Pos} {l : Nat} : swapsWithSole [.Attribute a f p] v l env = pure false := by
  cases v <;> rfl
theorem sw_atr {env : Env} {a : PySem.Expr} {f : Str} {p : Pos} {v : PySem.Expr} : swappedStores [.Attribute a f p] v env = pure none := by
  cases v <;> rfl
end MP
namespace MP
open PySem L2 PyProof.Rows PySem.Spec
/-! ## statements -/
inductive MG where | nm (i : Nat) | sub (a i : ME) | fld (c : Nat) (x : Str) (o : ME)
mutual
inductive MS where
  | asg (g : MG) (e : ME) | asgT (gs : List MG) (e : ME) | par (is : List Nat) (es : MEs) | aug (i : Nat) (o : Op2) (e : ME)
  | rse (c : Nat) (a : ME) | expr (e : ME) | ret (e : ME) | retN | pass | brk | cont
  | bad | ife (c : ME) (a b : MSs) | fors (tg : MT) (k : IK) (src : MEs) (body : MSs) | whl (c : ME) (body : MSs)
  | tryAs (body : MSs) (c : Nat) (slot : Option Nat) (suite : MSs)
inductive MSs where | nil | cons (s : MS) (r : MSs)
end
def Op2.inp : Op2 → Option Operator | .add => some .Add | .sub => some .Sub | .mul => some .Mult | _ => none
def lcOk (N : List Str) (sc : Scope) (i : Nat) (x : Str) : Bool := decide (N[i]? = some x) && (match sc.names.lookup x with | some .local => true | some .cell => true | _ => false)
def chkG (T : Tab) (N : List Str) (sc : Scope) : MG → PySem.Expr → Bool
  | .nm i, .Name x _ => lcOk N sc i x
  | .sub a i, .Subscript l r _ => chkE T N sc a l && chkE T N sc i r
  | .fld c x o, .Attribute l y _ => decide (y = x) && decide ((c, x) ∈ T.fds) && chkE T N sc o l
  | _, _ => false
def chkGs (T : Tab) (N : List Str) (sc : Scope) : List MG → List PySem.Expr → Bool
  | [], [] => true
  | g :: gs, e :: es => chkG T N sc g e && chkGs T N sc gs es
  | _, _ => false
def parOk (N : List Str) (sc : Scope) : List Nat → List PySem.Expr → Bool
  | [], [] => true
  | i :: is, .Name x _ :: es => decide (N[i]? = some x) && decide (sc.names.lookup x = some .local) && decide (i ∉ is) && parOk N sc is es
  | _, _ => false
def slotOk (N : List Str) (sc : Scope) : Option Nat → Option Str → Bool
  | none, none => true
  | some i, some n => decide (N[i]? = some n) && decide (sc.names.lookup n = some .local)
  | _, _ => false
mutual
def chkS (T : Tab) (N : List Str) (sc : Scope) : MS → PySem.Stmt → Bool
  | .asg (.nm i) (.comp m elt tg k src cond own), .Assign [.Name x _] v _ => lcOk N sc i x && chkE T N sc (.comp m elt tg k src cond own) v
  | .asg (.nm i) (.dcomp key elt tg k src cond own), .Assign [.Name x _] v _ => lcOk N sc i x && chkE T N sc (.dcomp key elt tg k src cond own) v
  | .asg g e, .Assign [t] v _ => chkG T N sc g t && chkE T N sc e v && (!isComp v || !isNmE t) && !isTupE t
  | .asgT gs e, .Assign [.Tuple ts _ _] v _ => !T.hot && chkGs T N sc gs ts && chkE T N sc e v && (match v with | .Tuple vs _ _ => swNo sc ts vs | _ => true)
  | .par is es, .Assign [.Tuple ts _ _] (.Tuple vs _ _) _ => !T.hot && parOk N sc is ts && chkEs T N sc es vs && swIs sc ts vs
  | .aug i o e, .AugAssign (.Name x _) p v _ => lcOk N sc i x && decide (o.inp = some p) && chkE T N sc e v
  | .rse c a, .Raise (some (.Call (.Name x _) [e] [] _)) none _ => !T.hot && glOk sc x && decide (T.cls[c]? = some x) && chkE T N sc a e
  | .expr e, .Expr v _ => chkE T N sc e v && !isComp v
  | .ret e, .Return (some v) _ => chkE T N sc e v
  | .retN, .Return none _ => true
  | .pass, .Pass _ => true
  | .bad, _ => true
  | .brk, .Break _ => true
  | .cont, .Continue _ => true
  | .ife c a b, .If t x y _ => chkE T N sc c t && chkSs T N sc a x && chkSs T N sc b y
  | .fors tg k src body, .For t i b [] _ => !T.hot && tgOk N sc tg t && tgTup k t && chkI T N sc k src i && !isSet i && chkSs T N sc body b
  | .whl c body, .While t b [] _ => chkE T N sc c t && chkSs T N sc body b
  | .tryAs body c slot suite, .Try b [.ExceptHandler (some (.Name x _)) n (s :: ss) _] [] [] _ => !T.hot && glOk sc x && decide (T.cls[c]? = some x) && slotOk N sc slot n && chkSs T N sc body b && chkSs { T with hot := true } N sc suite (s :: ss)
  | _, _ => false
def chkSs (T : Tab) (N : List Str) (sc : Scope) : MSs → List PySem.Stmt → Bool
  | .nil, [] => true
  | .cons s r, t :: ts => chkS T N sc s t && chkSs T N sc r ts
  | _, _ => false
end
/-! readings -/
def rSet : V → V → V → Hp → (Hp → Prop) → Prop := fun o i v H Q => rSetL o i v H Q ∨ ∃ a H', o = .ref a ∧ DPut H a i v H' ∧ Q H'
def gFldC (C : Addr) (f : Str) (t : TE) : TG := fun y σ H Q => t σ H fun x H1 => ∃ a dx fs, x = .ref a ∧ H1 a = some (.ins C dx fs) ∧ fs.length < 1000 ∧ Q σ (upd H1 a (.ins C dx (putF f y fs)))
def rdG (G : Gv) (W : WX) : MG → TG
  | .nm i => gName i
  | .sub a i => gSub (rdE G W a) (rdE G W i) rSet
  | .fld c x o => gFldC (G.co c) x (rdE G W o)
def rdGs (G : Gv) (W : WX) : List MG → TGs
  | [] => gNil
  | g :: r => gCons (rdG G W g) (rdGs G W r)
def rAug : Op2 → TIp
  | .add => ipI fun i j => i + j
  | .sub => ipI fun i j => i - j
  | .mul => fun x y H Q => ∃ i j, x = .int i ∧ y = .int j ∧ CMulX i j ∧ Q (.int (i * j)) H
  | _ => fun _ _ _ _ => False
def tParN : List Nat → TA → TS
  | [i, j], ta => tPar i j ta
  | [i, j, l], ta => tPar3 i j l ta
  | _, _ => fun _ _ _ => False
mutual
def rdS (G : Gv) (W : WX) : MS → TS
  | .asg g e => tAsg (rdE G W e) (rdG G W g)
  | .asgT gs e => tAsg (rdE G W e) (gTup G.K gs.length (rdGs G W gs))
  | .par is es => tParN is (rdEs G W es)
  | .aug i o e => tAug i (rdE G W e) (rAug o)
  | .rse c a => fun _ σ H => if G.hv c = true then MPX.tPmk (G.cl c) (rdE G W a) σ H fun cls d H' => W cls d σ H' else False
  | .expr e => tDrop (rdE G W e)
  | .ret e => tRet (rdE G W e)
  | .retN => tRetN
  | .pass => tNext
  | .bad => fun _ _ _ => False
  | .brk => tBreak
  | .cont => tCont
  | .ife c a b => tIfS (rdT G W c) (rdSs G W a) (rdSs G W b)
  | .fors tg k src body => lkS k (tFor (rdI G W k src) (rdTg G.K tg) (rdSs G W body))
  | .whl c body => tWhile (rdT G W c) (rdSs G W body)
  | .tryAs body c slot suite => match slot with
    | some i => fun D σ H => rdSs G (MPX.wTry G.K (.ref (G.cl c)) i (rdSs G (fun _ _ _ _ => False) suite) W D) body D σ H
    | none => fun D σ H => rdSs G (wOnly G.K (.ref (G.cl c)) (fun _ _ _ => rdSs G (fun _ _ _ _ => False) suite) W D) body D σ H
def rdSs (G : Gv) (W : WX) : MSs → TS
  | .nil => tNext
  | .cons s r => tSeq (rdS G W s) (rdSs G W r)
end
/-- x = {k: v for ..}, stored within the comprehension's frame -/
theorem ps_setDc {X : Cx} {i : Nat} {y : Str} {py : Pos} {kx vx tg iter : PySem.Expr} {ifs : List PySem.Expr} {scope : Scope} {own : List (Str × Nat)} {pos spos : Pos} {wi : TI} {g : TG} {tt : TT} {tk tv : TE} (hc : X.calm = true) (hN : X.N.Nodup) (hy : X.N[i]? = some y) (hyl : X.env.scope.names.lookup y = some .local)
    (hsw : swapsWith (.DictComp kx vx [⟨tg, iter, ifs, 0⟩] scope pos) (some (.Name y py)) spos.line X.env = pure true) (hi : PI X tg iter wi) (ok : BlkOk X.N X.env.scope scope own)
    (hg : ∀ s H C cl fp, PG (X.blk s H scope (compEnvC scope cl C X.env) fp) tg g) (ht : ∀ s H C cl fp, PTs (X.blk s H scope (compEnvC scope cl C X.env) fp) ifs tt) (hk : ∀ s H C cl fp, PE (X.blk s H scope (compEnvC scope cl C X.env) fp) kx tk) (he : ∀ s H C cl fp, PE (X.blk s H scope (compEnvC scope cl C X.env) fp) vx tv)
    (hs : ∀ x, foldedSetIterable iter X.env x = pure x) : PS X (.Assign [.Name y py] (.DictComp kx vx [⟨tg, iter, ifs, 0⟩] scope pos) spos) (tAsg (tDc wi g tt tk tv (own.map (·.2))) (gName i)) := by
  refine ⟨fun pins s σ H D I h => ?_⟩
  rw [exec_Assign_Name_used _ _ _ _ hsw]
  refine wpAny_bind (wpAny_standAt (wpAny_bind ?_)); show wpAny _ X.A (do let _ ← comprehension (.DictComp kx vx [⟨tg, iter, ifs, 0⟩] scope pos) scope X.env (firstIterPos [⟨tg, iter, ifs, 0⟩] pos) newDict false (eval iter X.env) (some (assign (.Name y py) X.env))) _ _ s
  have h : tDc wi g tt tk tv (own.map (·.2)) σ H (fun x H1 => gName i x σ H1 D.nx) := h
  refine wpAny_bind (thn (dc_core (Qf := fun _ s' => SP X pins D .next s') hc hN I hi ok hg ht hk he hs h fun L C s' m H' I' q hn f => ?_) fun _ s' hq => wpAny_pure (wpAny_pure hq)); show wpAny _ _ (assign (.Name y py) X.env (.ref L)) _ _ _
  refine wpAny_assign_Name (store_ok2 (v := V.ref L) I' hN hy (.inl hyl) rfl (fun s2 I2 ⟨a, sb, ha⟩ => ?_) (.inr hyl))
  obtain ⟨f0, f1, f2, f3, f4, f5⟩ := f
  have haC : C ≠ a := ha.elim (fun z => by rw [z]; exact f1) fun z e => f4 y a z e.symm
  exact ⟨m, hn.sameBut sb haC, fun h3 sb3 => ⟨_, H', I2.turned (t' := s2.toks) (fun b o hb e => (sb3.2 b hb).trans e) f0 f1 f3 f4 f5, q⟩⟩
structure SxOk (T : Tab) (G : Gv) (k : Nat) (N : List Str) (sc : Scope) (X : Cx) : Prop extends CxOk T G k N sc X where
  fnA : ∀ x, X.fn x = true
  hp : PassesOwn (model X.prog X.w) X.A X.env X.xe
  hst : X.stack = X.env :: X.outer
  hfr : X.env.frame = some X.env.locals
  hbk : X.env.blockKind = .function
  hex : X.ex = []
section
variable {T : Tab} {G : Gv} {k : Nat} {N : List Str} {sc : Scope} {X : Cx} {W : WX}
theorem lc_ok (C : SxOk T G k N sc X) {i : Nat} {x : Str} (h : lcOk N sc i x = true) : X.N.Nodup ∧ X.N[i]? = some x ∧ L2.Loc X.env.scope x ∧ (X.fn x = true ∨ X.env.scope.names.lookup x = some .local) := by
  unfold lcOk at h
  rw [Bool.and_eq_true] at h
  have h1 := of_decide_eq_true h.1
  have h2 := h.2
  refine ⟨by rw [C.hN]; exact C.nd, by rw [C.hN]; exact h1, ?_, .inl (C.fnA _)⟩
  unfold L2.Loc
  rw [C.hsc]
  split at h2
  · exact .inl (by assumption)
  · exact .inr (by assumption)
  · cases h2
theorem set_any (hu : X.A.units + 1 < cLine) : PSet X rSet := by
  intro pins s σ H o i v ov iv u Q I ro ri rv h
  rcases h with h | ⟨a, H', rfl, g, q⟩
  · exact set_list pins s σ H o i v ov iv u Q I ro ri rv h
  · cases ro
    exact d_setItem hu I g ri rv fun s' I' => ⟨H', I', q⟩
theorem pg_fldC {K : Addr} {f : Str} {e : PySem.Expr} {pos : Pos} {t : TE} (c : Cls X.K K) (n : NoAttr X.K K f) (he : PE X e t) : PG X (.Attribute e f pos) (gFldC K f t) := by
  constructor
  intro pins s σ H y u Q I ry h
  rw [arm_assign_Attribute]
  refine wpAny_bind (wpAny_holding (thn (he.run pins s σ H _ I h) ?_))
  rintro ov s1 ⟨z, H1, I1, rz, a, dx, fs, rfl, ea, l, q⟩
  cases rz
  exact wpAny_bind (wpAny_standAt (wpAny_bind (wpAny_holding (setattr_ok I1 ea c n l ry fun s2 I2 => wpAny_release ⟨σ, _, I2, q⟩))))
theorem pg_ok (C : SxOk T G k N sc X) (tk : Takes X W) {g : MG} {e : PySem.Expr} (h : chkG T N sc g e = true) : PG X e (rdG G W g) := by
  have hu := C.hu
  unfold chkG at h
  split at h
  · obtain ⟨h1, h2, h3, h4⟩ := lc_ok C h
    exact pg_name h1 h2 h3 h4
  · rw [Bool.and_eq_true] at h
    refine pg_sub (pe_ok C.toCxOk tk h.1) (pe_ok C.toCxOk tk h.2) (set_any (by omega)) (fun v => ?_)
    rename_i a i l r pos
    cases r <;> first | rfl | exact (inv_slice h.2).elim
  · simp only [Bool.and_eq_true, decide_eq_true_eq] at h
    obtain ⟨⟨h1, h2⟩, h3⟩ := h
    subst h1
    obtain ⟨c, n⟩ := C.fds _ _ h2
    exact pg_fldC c n (pe_ok C.toCxOk tk h3)
  · cases h
theorem pgs_ok (C : SxOk T G k N sc X) (tk : Takes X W) : ∀ {gs : List MG} {es : List PySem.Expr}, chkGs T N sc gs es = true → PGs X es (rdGs G W gs) ∧ (assignEach es X.env).length = gs.length ∧ (assignEach es X.env).findIdx? (·.1) = none
  | [], [], _ => ⟨pgs_nil, rfl, rfl⟩
  | [], _ :: _, h => by simp [chkGs] at h
  | _ :: _, [], h => by simp [chkGs] at h
  | g :: gs, e :: es, h => by
    unfold chkGs at h
    rw [Bool.and_eq_true] at h
    obtain ⟨g1, g2, g3⟩ := pgs_ok C tk h.2
    have hs : assignEach (e :: es) X.env = (false, assign e X.env) :: assignEach es X.env := by
      have h1 := h.1
      cases e <;> first | rfl | (cases g <;> simp [chkG] at h1)
    refine ⟨pgs_cons (pg_ok C tk h.1) g1 (by rw [hs]; rfl), ?_, ?_⟩
    · rw [hs]
      show (assignEach es X.env).length + 1 = gs.length + 1
      rw [g2]
    · rw [hs, List.findIdx?_cons]
      simp [g3]
theorem iop_ok {o : Op2} {p : Operator} (h : o.inp = some p) : PIp X p (rAug o) := by
  cases o <;> cases h
  · exact ip_add
  · exact ip_sub
  · intro pins s σ H x y v u Q I r1 r2 h
    obtain ⟨i, j, rfl, rfl, c, q⟩ := h
    obtain ⟨t, rfl⟩ := r1
    obtain ⟨t', rfl⟩ := r2
    exact imul_int ⟨.int _, H, I.tok _, ⟨_, rfl⟩, q⟩ c.ok
end
end MP
namespace MP
open PySem L2 PyProof.Rows PySem.Spec
structure AllS (G : Gv) (k : Nat) (N : List Str) (n : Nat) : Prop where
  ps : ∀ m : MS, sizeOf m < n → ∀ (T : Tab) (sc : Scope) (X : Cx) (W : WX) (e : PySem.Stmt), SxOk T G k N sc X → Takes X W → chkS T N sc m e = true → PS X e (rdS G W m)
  pss : ∀ m : MSs, sizeOf m < n → ∀ (T : Tab) (sc : Scope) (X : Cx) (W : WX) (e : List PySem.Stmt), SxOk T G k N sc X → Takes X W → chkSs T N sc m e = true → PSs X e (rdSs G W m)
section
variable {T : Tab} {G : Gv} {k : Nat} {N : List Str} {n : Nat}
theorem inv_par {sc : Scope} {i : Nat} {is : List Nat} {ts : List PySem.Expr} (hh : parOk N sc (i :: is) ts = true) : ∃ x q r, ts = .Name x q :: r ∧ N[i]? = some x ∧ sc.names.lookup x = some .local ∧ i ∉ is ∧ parOk N sc is r = true := by
  cases ts with
  | nil => simp [parOk] at hh
  | cons t r =>
    cases t <;> first | (simp [parOk] at hh; done) | skip
    simp only [parOk, Bool.and_eq_true, decide_eq_true_eq] at hh
    exact ⟨_, _, _, rfl, hh.1.1.1, hh.1.1.2, hh.1.2, hh.2⟩
theorem names2 {sc : Scope} {x y : Str} {p q : Pos} (h : (swNames sc [.Name x p, .Name y q]).length = [PySem.Expr.Name x p, .Name y q].length) : swNames sc [.Name x p, .Name y q] = [x, y] := by
  unfold swNames at h ⊢
  simp only [List.filterMap_cons, List.filterMap_nil, List.head?_cons, Option.map_some, Option.getD_some] at h ⊢
  split at h <;> split at h <;> simp_all
theorem names3 {sc : Scope} {x y z : Str} {p q r : Pos} (h : (swNames sc [.Name x p, .Name y q, .Name z r]).length = [PySem.Expr.Name x p, .Name y q, .Name z r].length) : swNames sc [.Name x p, .Name y q, .Name z r] = [x, y, z] := by
  unfold swNames at h ⊢
  simp only [List.filterMap_cons, List.filterMap_nil, List.head?_cons, Option.map_some, Option.getD_some] at h ⊢
  split at h <;> split at h <;> split at h <;> simp_all
theorem two_of {sc : Scope} {x y : PySem.Expr} {vs : List PySem.Expr} (h : swIs sc [x, y] vs = true) : ∃ a b, vs = [a, b] := by
  unfold swIs at h
  simp only [Bool.and_eq_true] at h
  have z := eq_of_beq h.1.1.1.1.1.2
  match vs, z with
  | [a, b], _ => exact ⟨a, b, rfl⟩
theorem three_of {sc : Scope} {x y z : PySem.Expr} {vs : List PySem.Expr} (h : swIs sc [x, y, z] vs = true) : ∃ a b c, vs = [a, b, c] := by
  unfold swIs at h
  simp only [Bool.and_eq_true] at h
  have z := eq_of_beq h.1.1.1.1.1.2
  match vs, z with
  | [a, b, c], _ => exact ⟨a, b, c, rfl⟩
theorem asg_lk {X : Cx} {e : PySem.Stmt} {t : TE} {i : Nat} (q : IK) (h : PS X e (tAsg t (gName i))) : PS X e (tAsg (lkE q t) (gName i)) := by
  unfold lkE
  split
  · exact ps_conv (ps_lock h) fun D σ H z => z
  · exact h
theorem ps_asgLc {sc : Scope} {X : Cx} {W : WX} {i : Nat} {x : Str} {p pos : Pos} {m : Bool} {elt : ME} {tg : MT} {q : IK} {src : MEs} {cond : MO} {own : List (Str × Nat)} {v : PySem.Expr} (C : SxOk T G k N sc X) (tk : Takes X W) (hl : lcOk N sc i x = true)
    (h : chkE T N sc (.comp m elt tg q src cond own) v = true) : PS X (.Assign [.Name x p] v pos) (rdS G W (.asg (.nm i) (.comp m elt tg q src cond own))) := by
  obtain ⟨h1, h2, h3, h4⟩ := lc_ok C hl
  have hpe := pe_ok C.toCxOk tk h
  generalize hm : ME.comp m elt tg q src cond own = mm at h
  unfold chkE at h
  split at h <;> cases hm
  · rename_i e t it ifs scope lp
    by_cases hb : swapsWith (.ListComp e [⟨t, it, ifs, 0⟩] scope lp) (some (.Name x p)) pos.line X.env = pure false
    · exact ps_set h1 h2 h3 hpe hb h4
    · have hy : swapsWith (.ListComp e [⟨t, it, ifs, 0⟩] scope lp) (some (.Name x p)) pos.line X.env = pure true ∧ X.env.scope.names.lookup x = some .local := by
        have e0 : swapsWith (.ListComp e [⟨t, it, ifs, 0⟩] scope lp) (some (.Name x p)) pos.line X.env = pure (X.env.blockKind == .function && X.env.kindOf x == some .local && p.line == lp.line
          && !(scope.names.any fun (n, k) => n == x && (k == .local || k == .cell))) := rfl
        rw [e0] at hb ⊢
        cases hc : (X.env.blockKind == .function && X.env.kindOf x == some .local && p.line == lp.line && !(scope.names.any fun (n, k) => n == x && (k == .local || k == .cell))) with
        | false => exact absurd (by rw [hc]) hb
        | true =>
          refine ⟨rfl, ?_⟩
          simp only [Bool.and_eq_true] at hc
          exact eq_of_beq hc.1.1.2
      simp only [Bool.and_eq_true, Bool.not_eq_true'] at h
      obtain ⟨⟨⟨⟨⟨⟨⟨⟨hh, g1⟩, g2⟩, g3⟩, gq⟩, g4⟩, g5⟩, g6⟩, g7⟩ := h
      have Cb := fun (s : Shared) (H : Hp) (Ca : Addr) (cl : List (Str × Addr)) (fp : List Addr) (scope : Scope) => CxOk.blk (s := s) (H := H) (scope := scope) (cl := cl) (Ca := Ca) (fp := fp) C.toCxOk
      refine asg_lk q (ps_setLc (C.calm hh) h1 h2 hy.2 hy.1 (pi_ok C.toCxOk tk gq g4) (blkOk_by (by rw [C.hN, C.hsc]; exact g1)) (fun s H Ca cl fp => ?_) (fun s H Ca cl fp => ?_) (fun s H Ca cl fp => ?_) (no_fold g5))
      · exact tg_ok (Cb s H Ca cl fp _) g2 (.inr g3) hh
      · exact (all_ok T G k N _).pf _ (Nat.lt_succ_self _) _ _ _ _ (Cb s H Ca cl fp _) takes0 g6
      · exact pe_ok (Cb s H Ca cl fp _) takes0 g7
  · cases h
theorem ps_asgDc {sc : Scope} {X : Cx} {W : WX} {i : Nat} {x : Str} {p pos : Pos} {key elt : ME} {tg : MT} {q : IK} {src : MEs} {cond : MO} {own : List (Str × Nat)} {v : PySem.Expr} (C : SxOk T G k N sc X) (tk : Takes X W) (hl : lcOk N sc i x = true)
    (h : chkE T N sc (.dcomp key elt tg q src cond own) v = true) : PS X (.Assign [.Name x p] v pos) (rdS G W (.asg (.nm i) (.dcomp key elt tg q src cond own))) := by
  obtain ⟨h1, h2, h3, h4⟩ := lc_ok C hl
  have hpe := pe_ok C.toCxOk tk h
  generalize hm : ME.dcomp key elt tg q src cond own = mm at h
  unfold chkE at h
  split at h <;> cases hm
  · rename_i ke ve t it ifs scope lp
    by_cases hb : swapsWith (.DictComp ke ve [⟨t, it, ifs, 0⟩] scope lp) (some (.Name x p)) pos.line X.env = pure false
    · exact ps_set h1 h2 h3 hpe hb h4
    · have hy : swapsWith (.DictComp ke ve [⟨t, it, ifs, 0⟩] scope lp) (some (.Name x p)) pos.line X.env = pure true ∧ X.env.scope.names.lookup x = some .local := by
        have e0 : swapsWith (.DictComp ke ve [⟨t, it, ifs, 0⟩] scope lp) (some (.Name x p)) pos.line X.env = pure (X.env.blockKind == .function && X.env.kindOf x == some .local && p.line == lp.line
          && !(scope.names.any fun (n, k) => n == x && (k == .local || k == .cell))) := rfl
        rw [e0] at hb ⊢
        cases hc : (X.env.blockKind == .function && X.env.kindOf x == some .local && p.line == lp.line && !(scope.names.any fun (n, k) => n == x && (k == .local || k == .cell))) with
        | false => exact absurd (by rw [hc]) hb
        | true =>
          refine ⟨rfl, ?_⟩
          simp only [Bool.and_eq_true] at hc
          exact eq_of_beq hc.1.1.2
      simp only [Bool.and_eq_true, Bool.not_eq_true'] at h
      obtain ⟨⟨⟨⟨⟨⟨⟨⟨⟨hh, g1⟩, g2⟩, g3⟩, gq⟩, g4⟩, g5⟩, g6⟩, g7⟩, g8⟩ := h
      have Cb := fun (s : Shared) (H : Hp) (Ca : Addr) (cl : List (Str × Addr)) (fp : List Addr) (scope : Scope) => CxOk.blk (s := s) (H := H) (scope := scope) (cl := cl) (Ca := Ca) (fp := fp) C.toCxOk
      refine asg_lk q (ps_setDc (C.calm hh) h1 h2 hy.2 hy.1 (pi_ok C.toCxOk tk gq g4) (blkOk_by (by rw [C.hN, C.hsc]; exact g1)) (fun s H Ca cl fp => ?_) (fun s H Ca cl fp => ?_) (fun s H Ca cl fp => ?_) (fun s H Ca cl fp => ?_) (no_fold g5))
      · exact tg_ok (Cb s H Ca cl fp _) g2 (.inr g3) hh
      · exact (all_ok T G k N _).pf _ (Nat.lt_succ_self _) _ _ _ _ (Cb s H Ca cl fp _) takes0 g6
      · exact pe_ok (Cb s H Ca cl fp _) takes0 g7
      · exact pe_ok (Cb s H Ca cl fp _) takes0 g8
  · cases h
theorem SxOk.tr {T : Tab} {sc : Scope} {X : Cx} {pn : List (Addr × Obj)} {xe : Value → Shared → Prop} (C : SxOk T G k N sc X) (hp : PassesOwn (model X.prog X.w) X.A X.env xe) : SxOk T G k N sc (X.tr pn xe) :=
  ⟨⟨C.hN, C.nd, C.hsc, C.hK, C.calm, C.room1, C.hu, C.gds, C.fn, C.glb, C.cls, C.kds, C.kls, C.mth, C.fds, C.blt, C.tys, C.rng, C.enu, C.zp⟩, C.fnA, hp, C.hst, C.hfr, C.hbk, C.hex⟩
theorem SxOk.suite {T : Tab} {sc : Scope} {X : Cx} {a : Addr} {pn : List (Addr × Obj)} (C : SxOk T G k N sc X) : SxOk { T with hot := true } G k N sc (X.suite a pn) :=
  ⟨⟨C.hN, C.nd, C.hsc, C.hK, fun z => (nomatch z), fun z => (nomatch z), C.hu, C.gds, C.fn, C.glb, C.cls, C.kds, C.kls, C.mth, C.fds, C.blt, C.tys, C.rng, C.enu, C.zp⟩, C.fnA, PassesOwn.never, C.hst, C.hfr, C.hbk, C.hex⟩
theorem ps_step (A : AllS G k N n) (m : MS) (hs : sizeOf m < n + 1) (T : Tab) (sc : Scope) (X : Cx) (W : WX) (e : PySem.Stmt) (C : SxOk T G k N sc X) (tk : Takes X W) (h : chkS T N sc m e = true) : PS X e (rdS G W m) := by
  unfold chkS at h
  split at h
  · rw [Bool.and_eq_true] at h
    exact ps_asgLc C tk h.1 h.2
  · rw [Bool.and_eq_true] at h
    exact ps_asgDc C tk h.1 h.2
  · rename_i g e t v pos _ _
    simp only [Bool.and_eq_true, Bool.not_eq_true'] at h
    obtain ⟨⟨⟨h1, h2⟩, h3⟩, h4⟩ := h
    have hw : swappedStores [t] v X.env = pure none := by
      unfold chkG at h1
      split at h1
      · exact sw_name
      · exact sw_sub
      · exact sw_atr
      · cases h1
    have h1a : (assignEach [t] X.env).map (·.2) = [assign t X.env] := by
      unfold chkG at h1
      split at h1
      · rfl
      · rfl
      · rfl
      · cases h1
    have h3a : swapsWithSole [t] v pos.line X.env = pure false := by
      unfold chkG at h1
      split at h1
      · refine sole_no ?_
        simpa [isNmE] using h3
      · exact sole_sub
      · exact sole_atr
      · cases h1
    exact ps_asg (pe_ok C.toCxOk tk h2) (pg_ok C tk h1) h3a hw h1a
  · rename_i gs e ts kk p v pos
    simp only [Bool.and_eq_true, Bool.not_eq_true'] at h
    obtain ⟨⟨⟨hh, h1⟩, h2⟩, h3⟩ := h
    obtain ⟨g1, g2, g3⟩ := pgs_ok C tk h1
    have hw : swappedStores [.Tuple ts kk p] v X.env = pure none := by
      cases hv : isTupE v with
      | false => exact sw_other hv
      | true =>
        cases v <;> first | (exact Bool.noConfusion hv) | skip
        exact sw_no C.hsc h3
    refine ps_asg (pe_ok C.toCxOk tk h2) ?_ sole_tup hw rfl
    show PG X _ (gTup G.K _ _)
    rw [← C.hK]
    exact pg_tup (C.calm hh) g1 g2 g3
  · rename_i is es ts kk p vs kk2 p2 pos
    simp only [Bool.and_eq_true, Bool.not_eq_true'] at h
    obtain ⟨⟨⟨hh, h1⟩, h2⟩, h3⟩ := h
    have ha := pas_ok C.toCxOk tk h2
    have hw := sw_yes (k := kk) (p := p) (k2 := kk2) (p2 := p2) C.hsc C.hbk h3
    have nd : X.N.Nodup := by rw [C.hN]; exact C.nd
    have key : ∀ {i : Nat} {is : List Nat} {ts : List PySem.Expr}, parOk N sc (i :: is) ts = true → ∃ x q r, ts = .Name x q :: r ∧ X.N[i]? = some x ∧ X.env.scope.names.lookup x = some .local ∧ i ∉ is ∧ parOk N sc is r = true := fun {i is ts} hh => by
      obtain ⟨x, q, r, rfl, g1, g2, g3, g4⟩ := inv_par hh
      exact ⟨x, q, r, rfl, by rw [C.hN]; exact g1, by rw [C.hsc]; exact g2, g3, g4⟩
    have nil_of : ∀ {ts : List PySem.Expr}, parOk N sc [] ts = true → ts = [] := fun {ts} hh => by
      cases ts with
      | nil => rfl
      | cons a r => simp [parOk] at hh
    unfold rdS
    cases is with
    | nil =>
      cases nil_of h1
      simp [swIs] at h3
    | cons i is =>
      obtain ⟨x, q, r, rfl, e1, e2, e3, h1⟩ := key h1
      cases is with
      | nil =>
        cases nil_of h1
        simp [swIs] at h3
      | cons j is =>
        obtain ⟨x2, q2, r2, rfl, f1, f2, f3, h1⟩ := key h1
        cases is with
        | nil =>
          cases nil_of h1
          have hn : swNames sc [.Name x q, .Name x2 q2] = [x, x2] := by
            have z := h3
            unfold swIs at z
            simp only [Bool.and_eq_true] at z
            exact names2 (eq_of_beq z.1.1.1.2)
          rw [hn] at hw
          obtain ⟨a, b, rfl⟩ : ∃ a b, vs = [a, b] := two_of h3
          exact ps_par (C.calm hh) nd e1 f1 (fun z => e3 (by rw [z]; exact List.mem_cons_self)) e2 f2 ha hw sole_tup
        | cons l is =>
          obtain ⟨x3, q3, r3, rfl, g1, g2, g3, h1⟩ := key h1
          cases is with
          | nil =>
            cases nil_of h1
            have hn : swNames sc [.Name x q, .Name x2 q2, .Name x3 q3] = [x, x2, x3] := by
              have z := h3
              unfold swIs at z
              simp only [Bool.and_eq_true] at z
              exact names3 (eq_of_beq z.1.1.1.2)
            rw [hn] at hw
            obtain ⟨a, b, c, rfl⟩ : ∃ a b c, vs = [a, b, c] := three_of h3
            exact ps_par3 (C.calm hh) nd e1 f1 g1 (fun z => e3 (by rw [z]; exact List.mem_cons_self)) (fun z => e3 (by rw [z]; simp)) (fun z => f3 (by rw [z]; exact List.mem_cons_self)) e2 f2 g2 ha hw sole_tup
          | cons l2 is =>
            obtain ⟨x4, q4, r4, rfl, _⟩ := key h1
            simp [swIs] at h3
  · simp only [Bool.and_eq_true, decide_eq_true_eq] at h
    obtain ⟨⟨h1, h2⟩, h3⟩ := h
    obtain ⟨g1, g2, g3, g4⟩ := lc_ok C h1
    exact ps_aug g1 g2 g3 (pe_ok C.toCxOk tk h3) (iop_ok h2) g4
  · simp only [Bool.and_eq_true, decide_eq_true_eq, Bool.not_eq_true'] at h
    obtain ⟨⟨⟨hh, h1⟩, h2⟩, h3⟩ := h
    obtain ⟨hg, hd, hn⟩ := gl_ok C.toCxOk h1
    obtain ⟨hmg, hk, hc⟩ := C.cls _ _ h2
    unfold rdS
    rename_i c a x p1 e p2 p3
    by_cases hv : G.hv c = true
    · rw [if_pos hv] at hc
      simp only [hv, if_true]
      exact MPX.ps_raiseX (C.calm hh) hc (C.room hh) tk hg hmg (pe_ok C.toCxOk tk h3) hd (star_one h3 _ _)
    · simp only [hv]
      exact ⟨fun _ _ _ _ _ _ h => h.elim⟩
  · simp only [Bool.and_eq_true, Bool.not_eq_true'] at h
    exact ps_expr (pe_ok C.toCxOk tk h.1) (swaps_no h.2)
  · exact ps_ret (pe_ok C.toCxOk tk h)
  · exact ps_retN
  · exact ps_pass
  · exact ⟨fun _ _ _ _ _ _ h => h.elim⟩
  · exact ps_break
  · exact ps_continue
  · simp only [Bool.and_eq_true] at h
    simp at hs
    exact ps_if (pt_ok C.toCxOk tk h.1.1) (A.pss _ (by omega) T sc X W _ C tk h.1.2) (A.pss _ (by omega) T sc X W _ C tk h.2)
  · simp only [Bool.and_eq_true, Bool.not_eq_true'] at h
    simp at hs
    obtain ⟨⟨⟨⟨⟨hh, h1⟩, h2⟩, h3⟩, h4⟩, h5⟩ := h
    exact ps_lk _ <| ps_for C.hp (C.calm hh) (pi_ok C.toCxOk tk h2 h3) (tg_ok C.toCxOk h1 (.inl C.fnA) hh) (A.pss _ (by omega) T sc X W _ C tk h5) (no_fold h4)
  · simp only [Bool.and_eq_true] at h
    simp at hs
    exact ps_while C.hp (pt_ok C.toCxOk tk h.1) (A.pss _ (by omega) T sc X W _ C tk h.2)
  · rename_i body c slot suite b x np n s ss p1 p2
    simp only [Bool.and_eq_true, decide_eq_true_eq, Bool.not_eq_true'] at h
    simp at hs
    obtain ⟨⟨⟨⟨⟨hh, h1⟩, h2⟩, h3⟩, h4⟩, h5⟩ := h
    obtain ⟨hg, hd, hn⟩ := gl_ok C.toCxOk h1
    obtain ⟨hmg, hk, hc⟩ := C.cls _ _ h2
    have nd : X.N.Nodup := by rw [C.hN]; exact C.nd
    have hb : ∀ (W' : WX) (pn : List (Addr × Obj)) (xe : Value → Shared → Prop), Takes (X.tr pn xe) W' → PassesOwn (model X.prog X.w) X.A X.env xe → PSs (X.tr pn xe) b (rdSs G W' body) := fun W' pn xe tk' hp =>
      A.pss body (by omega) T sc (X.tr pn xe) W' b (SxOk.tr C hp) tk' h4
    have hsu : ∀ (a : Addr) (pn : List (Addr × Obj)), PSs (X.suite a pn) (s :: ss) (rdSs G (fun _ _ _ _ => False) suite) := fun a pn =>
      A.pss suite (by omega) { T with hot := true } sc (X.suite a pn) (fun _ _ _ _ => False) (s :: ss) (SxOk.suite C) takes0 h5
    unfold slotOk at h3
    split at h3
    · have z := ps_try_only (pos' := p1) (np := np) (pos := p2) C.hst C.hfr ⟨hg, hd, .inl hmg⟩ tk hb (ts := fun _ _ _ => rdSs G (fun _ _ _ _ => False) suite) fun a oe cls d pn _ _ => hsu a _
      rw [C.hK] at z
      exact z
    · simp only [Bool.and_eq_true, decide_eq_true_eq] at h3
      have z := MPX.ps_tryAs (p1 := p1) (np := np) (p2 := p2) C.hex C.hst C.hfr nd (by rw [C.hN]; exact h3.1) (by show X.env.scope.names.lookup _ = _; rw [C.hsc]; exact h3.2) hg hmg hd tk hb hsu
      rw [C.hK] at z
      exact z
    · cases h3
  · cases h
theorem pss_step (A : AllS G k N n) (m : MSs) (hs : sizeOf m < n + 1) (T : Tab) (sc : Scope) (X : Cx) (W : WX) (e : List PySem.Stmt) (C : SxOk T G k N sc X) (tk : Takes X W) (h : chkSs T N sc m e = true) : PSs X e (rdSs G W m) := by
  unfold chkSs at h
  split at h
  · exact pss_nil
  · rw [Bool.and_eq_true] at h
    simp at hs
    exact pss_cons (A.ps _ (by omega) T sc X W _ C tk h.1) (A.pss _ (by omega) T sc X W _ C tk h.2)
  · cases h
theorem allS_ok (G : Gv) (k : Nat) (N : List Str) : ∀ n, AllS G k N n
  | 0 => ⟨fun _ h => by omega, fun _ h => by omega⟩
  | n + 1 => ⟨ps_step (allS_ok G k N n), pss_step (allS_ok G k N n)⟩
theorem pss_ok {sc : Scope} {X : Cx} {W : WX} {m : MSs} {e : List PySem.Stmt} (C : SxOk T G k N sc X) (tk : Takes X W) (h : chkSs T N sc m e = true) : PSs X e (rdSs G W m) := (allS_ok G k N _).pss m (Nat.lt_succ_self _) T sc X W e C tk h
end
end MP
namespace MP
open PySem L2
/-! ## the reckoner -/
/-- a value: data that nobody changes, an object of the store, a built-in class -/
inductive W where | d (x : PyData) | ref (n : Nat) | ty (t : String) | exn (c : Nat) (w : W) | cls (j : Nat)
inductive XT where | own (j : Nat) | ty (s : String)
/-- the module's constants; the own errors: which there are, which take a value, what isinstance says of each -/
structure Gd where
  v : Nat → W
  ex : Nat → Bool
  hv : Nat → Bool
  sub : Nat → XT → Option Bool
  /-- the module's dicts with texts as keys -/
  kd : Nat → Option (List (Str × PyData))
inductive O where | lst (ws : List W) | tup (ws : List W) | dk (kvs : List (Key × W)) | dt (kvs : List (List Key × W)) | lk (kvs : List (Key × W)) | ins (c : Nat) (fs : List (Str × W)) | dead
abbrev Sto := List O
abbrev Rho := List (Option W)
inductive R (α : Type) where | ok (a : α) (S : Sto) | exc (c : Nat) (v : W) (S : Sto) | bad
def R.bind {α β : Type} (r : R α) (f : α → Sto → R β) : R β := match r with | .ok a S => f a S | .exc c v S => .exc c v S | .bad => .bad
def lim : Nat := 1000000
def Cst.D : Cst → PyData | .non => .none | .bl b => .bool b | .int i => .int i | .str x => .str x
def allD : List W → Option (List PyData)
  | [] => some []
  | .d x :: r => match allD r with | some l => some (x :: l) | none => none
  | _ :: _ => none
def mkL (m : Bool) (ws : List W) (S : Sto) : R W :=
  if m then .ok (.ref S.length) (S ++ [.lst ws]) else match allD ws with | some ds => .ok (.d (.list ds)) S | none => .ok (.ref S.length) (S ++ [.lst ws])
def mkT (ws : List W) (S : Sto) : R W := match allD ws with | some ds => .ok (.d (.tuple ds)) S | none => .ok (.ref S.length) (S ++ [.tup ws])
def seqL (S : Sto) : W → Option (List W)
  | .d (.list ds) => some (ds.map .d)
  | .ref n => match S[n]? with | some (.lst ws) => some ws | _ => none
  | _ => none
def seqT (S : Sto) : W → Option (List W)
  | .d (.tuple ds) => some (ds.map .d)
  | .ref n => match S[n]? with | some (.tup ws) => some ws | _ => none
  | _ => none
def keyD : Key → PyData | .inl i => .int i | .inr x => .str x
def keyOf : PyData → Option Key | .int i => some (.inl i) | .str x => some (.inr x) | _ => none
def lookW {κ : Type} [DecidableEq κ] (kvs : List (κ × W)) (k : κ) : Option W := (kvs.find? fun kv => decide (kv.1 = k)).map (·.2)
def putW {κ : Type} [DecidableEq κ] (kvs : List (κ × W)) (k : κ) (v : W) : List (κ × W) :=
  if (kvs.any fun kv => decide (kv.1 = k)) = true then kvs.map (fun kv => if kv.1 = k then (kv.1, v) else kv) else kvs ++ [(k, v)]
def dkOf : List (PyData × PyData) → Option (List (Key × W))
  | [] => some []
  | (k, v) :: r => match keyOf k, dkOf r with | some q, some l => some ((q, .d v) :: l) | _, _ => none
/-- a dict whose keys are tuples stands as data behind the mark none: none -/
def keysOfL : List PyData → Option (List Key)
  | [] => some []
  | x :: r => match keyOf x, keysOfL r with | some k, some l => some (k :: l) | _, _ => none
def keysOf : PyData → Option (List Key) | .tuple ds => keysOfL ds | _ => none
def keyT (ks : List Key) : PyData := .tuple (ks.map keyD)
def dtOfL : List (PyData × PyData) → Option (List (List Key × W))
  | [] => some []
  | (k, v) :: r => match keysOf k, dtOfL r with | some q, some l => some ((q, .d v) :: l) | _, _ => none
def dtOf : List (PyData × PyData) → Option (List (List Key × W)) | (.none, .none) :: r => dtOfL r | _ => none
instance : DecidableEq (List Key) := inferInstance
/-- the data that a value is, read through the store -/
def rbL (f : W → Option PyData) : List W → Option (List PyData)
  | [] => some []
  | w :: r => match f w, rbL f r with | some x, some l => some (x :: l) | _, _ => none
def rbK (f : W → Option PyData) : List (Key × W) → Option (List (PyData × PyData))
  | [] => some []
  | (k, w) :: r => match f w, rbK f r with | some x, some l => some ((keyD k, x) :: l) | _, _ => none
def rbT (f : W → Option PyData) : List (List Key × W) → Option (List (PyData × PyData))
  | [] => some []
  | (k, w) :: r => match f w, rbT f r with | some x, some l => some ((keyT k, x) :: l) | _, _ => none
def rb (lo : Nat) : Nat → Sto → W → Option PyData
  | _, _, .d x => some x
  | n + 1, S, .ref i => if i < lo then none else match S[i]? with
    | some (.lst ws) => (rbL (rb lo n S) ws).map .list
    | some (.tup ws) => (rbL (rb lo n S) ws).map .tuple
    | some (.dk kvs) => (rbK (rb lo n S) kvs).map .dict
    | some (.dt kvs) => (rbT (rb lo n S) kvs).map fun l => .dict ((.none, .none) :: l)
    | _ => none
  | _, _, _ => none
def deep : Nat := 20
def tru (S : Sto) : W → Option Bool
  | .d .none => some false
  | .d (.bool b) => some b
  | .d (.int i) => some (i != 0)
  | .d (.str x) => if x.length ≤ lim then some ((x.length : Int) != 0) else none
  | .d (.list l) => some (!l.isEmpty)
  | .d (.tuple l) => some (!l.isEmpty)
  | .ref n => match S[n]? with | some (.lst ws) => some (!ws.isEmpty) | some (.tup ws) => some (!ws.isEmpty) | some (.dk kvs) => some (!kvs.isEmpty) | _ => none
  | _ => none
def addW (m : Bool) (x y : W) (S : Sto) : R W :=
  match x, y with
  | .d (.int i), .d (.int j) => .ok (.d (.int (i + j))) S
  | .d (.str a), .d (.str b) => if a.length + b.length ≤ lim then .ok (.d (.str (a ++ b))) S else .bad
  | .d (.tuple a), .d (.tuple b) => if a.length + b.length ≤ lim then .ok (.d (.tuple (a ++ b))) S else .bad
  | _, _ => match seqL S x, seqL S y with
    | some xs, some ys => if xs.length + ys.length ≤ lim then mkL m (xs ++ ys) S else .bad
    | _, _ => .bad
def mulOk (z : Str) (n : Int) : Bool := decide (0 ≤ n) && decide (n ≤ 1000) && decide (z.length ≤ 1000)
def mulW (m : Bool) (x y : W) (S : Sto) : R W :=
  match x, y with
  | .d (.int i), .d (.int j) => if (Builtin.Int.intBits i : Int) + (Builtin.Int.intBits j : Int) ≤ 134217728 then .ok (.d (.int (i * j))) S else .bad
  | .d (.str z), .d (.int n) => if mulOk z n then .ok (.d (.str (Txt.mul z n))) S else .bad
  | _, .d (.int k) => match seqL S x with
    | some xs => if 0 ≤ k ∧ k ≤ 1000000 ∧ xs.length * k.toNat ≤ lim then mkL m (List.replicate k.toNat xs).flatten S else .bad
    | none => .bad
  | _, _ => .bad
def int2 (f : Int → Int → R W) : W → W → R W
  | .d (.int i), .d (.int j) => f i j
  | _, _ => .bad
def dgetK (kvs : List (Key × W)) (k : PyData) : Option (Option W) := match keyOf k with | some q => some (lookW kvs q) | none => none
def dgetT (kvs : List (List Key × W)) (k : PyData) : Option (Option W) := match keysOf k with | some q => some (lookW kvs q) | none => none
def dget (S : Sto) (d k : W) : Option (Option W) :=
  match d, k with
  | .ref n, .d k => match S[n]? with | some (.dk kvs) => dgetK kvs k | some (.lk kvs) => dgetK kvs k | some (.dt kvs) => dgetT kvs k | _ => none
  | .d (.dict ds), .d k => match dtOf ds with | some kvs => dgetT kvs k | none => (match dkOf ds with | some kvs => dgetK kvs k | none => none)
  | _, _ => none
def isDict (S : Sto) : W → Bool
  | .d (.dict _) => true
  | .ref n => match S[n]? with | some (.dk _) => true | some (.lk _) => true | some (.dt _) => true | _ => false
  | _ => false
def flatD : PyData → Bool | .none => true | .bool _ => true | .int _ => true | .str _ => true | _ => false
def inW (neg : Bool) (x y : W) (S : Sto) : R W :=
  if isDict S y then (match dget S y x with | some o => .ok (.d (.bool (if neg then !o.isSome else o.isSome))) S | none => .bad)
  else match rb 0 deep S x, rb 0 deep S y with
    | some a, some (.list ds) => if SeqAt.shaped a && SeqAt.shaped (.list ds) then .ok (.d (.bool (if neg then !(ds.any fun z => PyData.eqv z a) else ds.any fun z => PyData.eqv z a))) S else .bad
    | some (.str c), some (.str z) => if c.cps.size = 1 then .ok (.d (.bool (if neg then !decide (c.cps.getD 0 0 ∈ z.cps.toList) else decide (c.cps.getD 0 0 ∈ z.cps.toList)))) S else .bad
    | _, _ => .bad
def eqW (neg : Bool) (x y : W) (S : Sto) : R W :=
  match rb 0 deep S x, rb 0 deep S y with
  | some a, some b => if SeqAt.shaped a && SeqAt.shaped b then .ok (.d (.bool (if neg then !PyData.eqv a b else PyData.eqv a b))) S else .bad
  | _, _ => .bad
def isW (neg : Bool) (x y : W) (S : Sto) : R W :=
  match x, y with
  | .d .none, .d .none => .ok (.d (.bool (!neg))) S
  | _, .d .none => .ok (.d (.bool neg)) S
  | .d (.bool a), .d (.bool b) => .ok (.d (.bool (if neg then !decide (a = b) else decide (a = b)))) S
  | _, _ => .bad
def op2 (o : Op2) (m : Bool) (x y : W) (S : Sto) : R W :=
  match o with
  | .add => addW m x y S
  | .sub => int2 (fun i j => .ok (.d (.int (i - j))) S) x y
  | .mul => mulW m x y S
  | .fdiv => int2 (fun i j => if 0 < j ∧ j.natAbs.log2 < 9000 then .ok (.d (.int (i / j))) S else .bad) x y
  | .mod => int2 (fun i j => if j ≠ 0 then .ok (.d (.int (i.fmod j))) S else .bad) x y
  | .pow => int2 (fun i j => if 0 ≤ j ∧ (Builtin.Int.intBits i : Int) * j ≤ 2 ^ 27 then .ok (.d (.int (i ^ j.toNat))) S else .bad) x y
  | .eq => eqW false x y S
  | .ne => eqW true x y S
  | .lt => int2 (fun i j => .ok (.d (.bool (decide (i < j)))) S) x y
  | .le => int2 (fun i j => .ok (.d (.bool (decide (i ≤ j)))) S) x y
  | .gt => int2 (fun i j => .ok (.d (.bool (decide (j < i)))) S) x y
  | .ge => int2 (fun i j => .ok (.d (.bool (decide (j ≤ i)))) S) x y
  | .inn => inW false x y S
  | .nin => inW true x y S
  | .is_ => isW false x y S
  | .isn => isW true x y S
def ixW (x y : W) (S : Sto) : R W :=
  if isDict S x then (match dget S x y with | some (some w) => .ok w S | _ => .bad)
  else match y with
    | .d (.int i) => match x with
      | .d (.str z) => if z.length ≤ lim then (match atI z.cps.toList i with | some c => .ok (.d (.str ⟨#[c]⟩)) S | none => .bad) else .bad
      | _ => match seqL S x with
        | some ws => (match atI ws i with | some w => .ok w S | none => .bad)
        | none => match seqT S x with
          | some ws => (match atI ws i with | some w => .ok w S | none => .bad)
          | none => .bad
    | _ => .bad
def cut {α : Type} (xs : List α) (lo hi : Option Int) : List α := (xs.drop (HT.sIx xs.length 0 lo)).take (HT.sIx xs.length xs.length hi - HT.sIx xs.length 0 lo)
def slW (x : W) (lo hi : Option Int) (S : Sto) : R W :=
  match x with
  | .d (.str z) => if z.length ≤ lim then .ok (.d (.str (cutS z lo hi))) S else .bad
  | _ => match seqL S x with
    | some ws => mkL false (cut ws lo hi) S
    | none => match x with
      | .d (.tuple ds) => .ok (.d (.tuple (cut ds lo hi))) S
      | _ => .bad
def typOf (S : Sto) : W → Option String
  | .d .none => some "NoneType" | .d (.bool _) => some "bool" | .d (.int _) => some "int" | .d (.str _) => some "str" | .d (.list _) => some "list" | .d (.tuple _) => some "tuple" | .d (.dict ds) => (match dkOf ds with | some _ => some "dict" | none => none)
  | .ref n => match S[n]? with | some (.lst _) => some "list" | some (.tup _) => some "tuple" | some (.dk _) => some "dict" | _ => none
  | _ => none
/-- isinstance over the built-in classes -/
def isiB (a b : String) : Bool := a == b || (a == "bool" && b == "int")
def lenW (S : Sto) : W → Option Nat
  | .d (.str z) => if z.length ≤ lim then some z.length else none
  | .d (.list l) => some l.length
  | .d (.tuple l) => some l.length
  | .d (.dict l) => match dkOf l with | some _ => some l.length | none => none
  | .ref n => match S[n]? with | some (.lst ws) => some ws.length | some (.tup ws) => some ws.length | some (.dk kvs) => some kvs.length | _ => none
  | _ => none
def intsW : List W → Option (List Int)
  | [] => some []
  | .d (.int i) :: r => match intsW r with | some l => some (i :: l) | none => none
  | _ => none
/-- a dict's pairs, its keys ints and texts; tuples of them -/
def dkW (S : Sto) : W → Option (List (Key × W))
  | .ref n => match S[n]? with | some (.dk kvs) => some kvs | _ => none
  | .d (.dict ds) => match dtOf ds with | some _ => none | none => dkOf ds
  | _ => none
def dtW (S : Sto) : W → Option (List (List Key × W))
  | .ref n => match S[n]? with | some (.dt kvs) => some kvs | _ => none
  | .d (.dict ds) => dtOf ds
  | _ => none
def biW (gd : Gd) (b : Bi) (m : Bool) (ws : List W) (S : Sto) : R W :=
  match b, ws with
  | .len, [x] => (match lenW S x with | some n => .ok (.d (.int n)) S | none => .bad)
  | .isi, [.exn c _, .ty t] => (match gd.sub c (.ty t) with | some k => .ok (.d (.bool k)) S | none => .bad)
  | .isi, [.exn c _, .cls j] => (match gd.sub c (.own j) with | some k => .ok (.d (.bool k)) S | none => .bad)
  | .isi, [x, .ty t] => (match typOf S x with | some a => if t ∈ tyNames then .ok (.d (.bool (isiB a t))) S else .bad | none => .bad)
  | .isi, [x, .cls j] => (match typOf S x with | some _ => if gd.ex j then .ok (.d (.bool false)) S else .bad | none => .bad)
  | .max2, [.d (.int i), .d (.int j)] => .ok (.d (.int (if j > i then j else i))) S
  | .max2, [x] => (match seqL S x with | some l => (match intsW l with | some (n :: ns) => .ok (.d (.int (ns.foldl max n))) S | _ => .bad) | none => .bad)
  | .min1, [.d (.int i), .d (.int j)] => .ok (.d (.int (if j < i then j else i))) S
  | .min1, [x] => (match (seqL S x).bind allD with | some (d :: ds) => if MPS.okSort (d :: ds) && PyData.canLayAll0 (d :: ds) then .ok (.d (PySem.W.minD d ds)) S else .bad | _ => .bad)
  | .sorted, [x] => if isDict S x then (match dkW S x with | some kvs => if MPS.okSort ((kvs.map (·.1)).map MPS.keyPD) && decide (kvs.length ≤ lim) then mkL m ((MPS.isort (PySem.W.dataLe false MPS.keyPD) (kvs.map (·.1))).map fun k => .d (keyD k)) S else .bad | none => .bad)
      else (match (seqL S x).bind allD with | some ds => if MPS.okSort ds && PyData.canLayAll0 ds then mkL m ((MPS.sortD ds).map .d) S else .bad | _ => .bad)
  | .str, [.d (.int i)] => if i.natAbs.log2 < 1920 then .ok (.d (.str (toString i))) S else .bad
  | .str, [.d (.str z)] => .ok (.d (.str z)) S
  | .dict, [x] => (match dkW S x with | some kvs => .ok (.ref S.length) (S ++ [.dk kvs]) | none => .bad)
  | .sum, [x] => (match seqL S x with | some l => (match intsW l with | some ns => .ok (.d (.int ns.sum)) S | none => .bad) | none => .bad)
  | .int, [.d (.int i)] => .ok (.d (.int i)) S
  | .int, [.d (.bool b)] => .ok (.d (.int (if b then 1 else 0))) S
  | .repr, [x] => (match rb 0 deep S x with | some d => if SeqAt.shaped d && d.showable && !d.hasDict && decide (d.depth ≤ 60) && decide (d.shown.length ≤ lim) then .ok (.d (.str d.shown)) S else .bad | none => .bad)
  | .list, [x] => (match seqL S x with | some l => mkL m l S | none => match seqT S x with | some l => mkL m l S | none => match dkW S x with
      | some kvs => if kvs.length ≤ lim then mkL m (kvs.map fun p => .d (keyD p.1)) S else .bad
      | none => .bad)
  | .tuple, [x] => (match seqL S x with | some l => mkT l S | none => match x with | .d (.tuple l) => .ok (.d (.tuple l)) S | _ => .bad)
  | _, _ => .bad
def mtW (k : Mt) (x : W) (ws : List W) (S : Sto) : R W :=
  match k, x, ws with
  | .append, .ref n, [w] => (match S[n]? with | some (.lst l) => if l.length < lim then .ok (.d .none) (S.set n (.lst (l ++ [w]))) else .bad | _ => .bad)
  | .pop0, .ref n, [] => (match S[n]? with | some (.lst l) => (match l[l.length - 1]? with | some w => .ok w (S.set n (.lst l.dropLast)) | none => .bad) | _ => .bad)
  | .popAt, .ref n, [.d (.int i)] => (match S[n]? with | some (.lst l) => if 0 ≤ i ∧ i < l.length then (match l[i.toNat]? with | some w => .ok w (S.set n (.lst (l.eraseIdx i.toNat))) | none => .bad) else .bad | _ => .bad)
  | .extend, .ref n, [w] => (match S[n]?, seqL S w with | some (.lst l), some r => if l.length + r.length ≤ lim then .ok (.d .none) (S.set n (.lst (l ++ r))) else .bad | _, _ => .bad)
  | .index, x, [y] => (match rb 0 deep S x, rb 0 deep S y with
      | some (.list ds), some a => if SeqAt.shaped a && SeqAt.shaped (.list ds) then (match ds.findIdx? (fun z => PyData.eqv z a) with | some j => .ok (.d (.int (j : Nat))) S | none => .bad) else .bad
      | _, _ => .bad)
  | .get1, x, [k] => (match dget S x k with | some (some w) => .ok w S | some none => .ok (.d .none) S | none => .bad)
  | .get2, x, [k, z] => (match dget S x k with | some (some w) => .ok w S | some none => .ok z S | none => .bad)
  | _, _, _ => .bad
def openDict (S : Sto) (x : W) : Bool := isDict S x && (match x with | .ref n => (match S[n]? with | some (.lk _) => false | _ => true) | _ => true)
def mtTy (k : Mt) (S : Sto) (x : W) : Bool := match k with | .get1 => openDict S x | .get2 => openDict S x | _ => (seqL S x).isSome
/-- a form of one part -/
def keysL : List PyData → Option (List Key) := keysOfL
def u1W (u : U1) (m : Bool) (x : W) (S : Sto) : R W :=
  match u with
  | .rev => (match seqL S x with | some l => mkL m l.reverse S | none => .bad)
  | .lset => (match x with | .d (.list ds) => (match keysOfL ds with | some ks => if ks.length ≤ 4000 then .ok (.d (.int ((MPS.dd ks).length : Nat))) S else .bad | none => .bad) | _ => .bad)
  | .sset => (match x with | .d (.list ds) => (match intsW (ds.map .d) with | some ns => if ns.length ≤ 4000 then mkL m ((MPS.isort (fun a b => decide (a ≤ b)) (MPS.dd ns)).map fun i => .d (.int i)) S else .bad | none => .bad) | _ => .bad)
  | .lrng => (match x with | .d (.int n) => if 0 ≤ n ∧ n ≤ 1000000 then mkL m ((List.range n.toNat).map fun i => .d (.int (i : Nat))) S else .bad | _ => .bad)
def setW (x y v : W) (S : Sto) : R Unit :=
  match x with
  | .ref n => match S[n]? with
    | some (.lst l) => (match y with | .d (.int i) => (match ixN l.length i with | some j => .ok () (S.set n (.lst (l.set j v))) | none => .bad) | _ => .bad)
    | some (.dk kvs) => (match y with | .d k => (match keyOf k with | some q => if kvs.length < lim then .ok () (S.set n (.dk (putW kvs q v))) else .bad | none => .bad) | _ => .bad)
    | some (.dt kvs) => (match y with | .d k => (match keysOf k with | some q => if kvs.length < lim then .ok () (S.set n (.dt (putW kvs q v))) else .bad | none => .bad) | _ => .bad)
    | _ => .bad
  | _ => .bad
/-- one turn's item: a value, or a pair that is made for it -/
inductive IW where | one (w : W) | two (x y : W)
def setIs : List Nat → List W → Rho → Option Rho
  | [], [], ρ => some ρ
  | i :: is, w :: ws, ρ => setIs is ws (ρ.set i (some w))
  | _, _, _ => none
def bindT (S : Sto) (tg : MT) (it : IW) (ρ : Rho) : Option Rho :=
  match tg, it with
  | .nm i, .one w => some (ρ.set i (some w))
  | .tp is, .two x y => setIs is [x, y] ρ
  | .tp is, .one w => match seqT S w with | some ws => setIs is ws ρ | none => none
  | _, _ => none
def wipeW (ρ : Rho) : List Nat → Rho
  | [] => ρ
  | v :: vs => (wipeW ρ vs).set v none
inductive Src where | lst (w : W) | tup (w : W) | str (z : Str) | rng (lo : Int) (n : Nat) | enum (w : W) | zip (x y : W) | zips (t1 t2 : Bool) (x y : W) | vals (n : Nat) | items (n : Nat)
/-- a list or a tuple -/
def seqLT (S : Sto) (x : W) : Option (List W) := match seqL S x with | some l => some l | none => seqT S x
def seqB (t : Bool) (S : Sto) (x : W) : Option (List W) := if t then seqT S x else seqL S x
def seqK (S : Sto) (x : W) : Option (Bool × List W) := match seqL S x with | some l => some (false, l) | none => (match seqT S x with | some l => some (true, l) | none => none)
/-- a locked dict -/
def lkd (S : Sto) (n : Nat) : Option (List (Key × W)) := match S[n]? with | some (.lk kvs) => some kvs | _ => none
def unlk (n : Nat) (S : Sto) : Option Sto := match lkd S n with | some kvs => some (S.set n (.dk kvs)) | none => none
def R.unlk {α : Type} (n : Nat) (r : R α) : R α := r.bind fun a S => match MP.unlk n S with | some S' => .ok a S' | none => .bad
def inRng (n : Int) : Bool := decide (-4611686018427387904 ≤ n) && decide (n < 4611686018427387904)
/-- what is walked, and how many turns it has at most -/
def srcOf (k : IK) (ws : List W) (S : Sto) : Option (Src × Nat) :=
  match k, ws with
  | .list, [x] => (match seqL S x with | some l => some (.lst x, l.length) | none => match seqT S x with | some l => some (.tup x, l.length) | none => match x with | .d (.str z) => some (.str z, z.cps.size) | _ => none)
  | .tup, [x] => (seqT S x).map fun l => (.tup x, l.length)
  | .range1, [.d (.int n)] => if inRng n then some (.rng 0 n.toNat, n.toNat) else none
  | .range2, [.d (.int a), .d (.int b)] => if inRng a && inRng b then some (.rng a (b - a).toNat, (b - a).toNat) else none
  | .enum, [x] => (seqL S x).map fun l => (.enum x, l.length)
  | .zip, [x, y] => (match seqL S x, seqL S y with | some l, some r => some (.zip x y, min l.length r.length) | _, _ => none)
  | .zips, [x, y] => (match seqK S x, seqK S y with | some (t1, l), some (t2, r) => if l.length = r.length then some (.zips t1 t2 x y, l.length) else none | _, _ => none)
  | .vals, [.ref n] => (match lkd S n with | some kvs => some (.vals n, kvs.length) | none => none)
  | .items, [.ref n] => (match lkd S n with | some kvs => some (.items n, kvs.length) | none => none)
  | _, _ => none
def shI : IK → MEs → Bool
  | .list, .cons _ .nil => true
  | .tup, .cons _ .nil => true
  | .range1, .cons _ .nil => true
  | .range2, .cons _ (.cons _ .nil) => true
  | .enum, .cons _ .nil => true
  | .zip, .cons _ (.cons _ .nil) => true
  | .zips, .cons _ (.cons _ .nil) => true
  | .vals, .cons _ .nil => true
  | .items, .cons _ .nil => true
  | _, _ => false
def itemAt (S : Sto) (i : Nat) : Src → Option (Option IW)
  | .lst w => (seqL S w).map fun l => l[i]?.map .one
  | .tup w => (seqT S w).map fun l => l[i]?.map .one
  | .str z => some (z.cps[i]?.map fun c => .one (.d (.str ⟨#[c]⟩)))
  | .rng lo n => some (if i < n then some (.one (.d (.int (lo + (i : Nat))))) else none)
  | .enum w => (seqL S w).map fun l => l[i]?.map fun x => .two (.d (.int (i : Nat))) x
  | .zip x y => match seqL S x, seqL S y with
    | some l, some r => some (match l[i]?, r[i]? with | some a, some b => some (.two a b) | _, _ => none)
    | _, _ => none
  | .zips t1 t2 x y => match seqB t1 S x, seqB t2 S y with
    | some l, some r => if l.length = r.length then some (match l[i]?, r[i]? with | some a, some b => some (.two a b) | _, _ => none) else none
    | _, _ => none
  | .vals n => (lkd S n).map fun kvs => kvs[i]?.map fun kv => .one kv.2
  | .items n => (lkd S n).map fun kvs => kvs[i]?.map fun kv => .two (.d (keyD kv.1)) kv.2
def consO (o : Option W) (l : List W) : List W := match o with | some w => w :: l | none => l
def compGo (src : Src) (f : IW → Sto → R (Option W)) : Nat → Nat → Sto → R (List W)
  | 0, _, _ => .bad
  | n + 1, i, S => match itemAt S i src with
    | some none => .ok [] S
    | some (some it) => (match f it S with
      | .ok o S1 => (match compGo src f n (i + 1) S1 with | .ok l S2 => .ok (consO o l) S2 | _ => .bad)
      | _ => .bad)
    | none => .bad
/-- a dict comprehension: the pairs so far -/
def dcGo (src : Src) (f : IW → Sto → R (Option (W × W))) : Nat → Nat → List (Key × W) → Sto → R (List (Key × W))
  | 0, _, _, _ => .bad
  | n + 1, i, acc, S => match itemAt S i src with
    | some none => .ok acc S
    | some (some it) => (match f it S with
      | .ok none S1 => dcGo src f n (i + 1) acc S1
      | .ok (some (k, v)) S1 => (match k with | .d x => (match keyOf x with | some q => if acc.length < lim then dcGo src f n (i + 1) (putW acc q v) S1 else .bad | none => .bad) | _ => .bad)
      | _ => .bad)
    | none => .bad
def tgIn (tg : MT) (own : List Nat) : Bool := match tg with | .nm i => decide (i ∈ own) | .tp is => is.all fun i => decide (i ∈ own)
section
def valW (gd : Gd) (x : W) (S : Sto) : R W := match x with | .exn c w => if gd.hv c && gd.ex c then .ok w S else .bad | _ => .bad
def neX (gd : Gd) (x y : W) (S : Sto) : R W := match x, y with | .exn c _, .exn c' _ => if c = c' ∧ gd.ex c = true then .ok (.d (.bool false)) S else .bad | _, _ => .bad
def lkOf (k : IK) (src : MEs) (ρ : Rho) (S : Sto) : Option (Nat × List (Key × W)) :=
  match src with
  | .cons (.var i) .nil => (match ρ[i]? with | some (some (.ref n)) => (match S[n]? with | some (.dk kvs) => some (n, kvs) | _ => none) | _ => none)
  | _ => none
/-- within a locked dict's walk -/
def inLk {α : Type} (k : IK) (src : MEs) (ρ : Rho) (S : Sto) (f : Sto → R α) : R α :=
  if k.lock then (match lkOf k src ρ S with | some (n, kvs) => (f (S.set n (.lk kvs))).unlk n | none => .bad) else f S
def putFW (x : Str) (w : W) : List (Str × W) → List (Str × W)
  | [] => [(x, w)]
  | (y, v) :: r => if y = x then (y, w) :: r else (y, v) :: putFW x w r
def insW (S : Sto) (c : Nat) : W → Option (List (Str × W)) | .ref n => (match S[n]? with | some (.ins c' fs) => if c' = c then some fs else none | _ => none) | _ => none
def kdGet (gd : Gd) (i : Nat) : W → Option (Option PyData) | .d (.str z) => (match gd.kd i with | some l => some (l.lookup z) | none => none) | _ => none
def ginB (gd : Gd) (neg : Bool) (i : Nat) (x : W) : Option Bool := match kdGet gd i x with | some o => some (if neg then !o.isSome else o.isSome) | none => none
def gixW (gd : Gd) (i : Nat) (x : W) : Option PyData := match kdGet gd i x with | some (some p) => some p | _ => none
def isMk : ME → Bool | .mk _ _ _ => true | _ => false
variable (F : Nat → List W → Sto → R W) (gd : Gd)
mutual
def evE : ME → Rho → Sto → R W
  | .var i, ρ, S => match ρ[i]? with | some (some w) => .ok w S | _ => .bad
  | .cst c, _, S => .ok (.d c.D) S
  | .glb i, _, S => .ok (gd.v i) S
  | .ty t, _, S => .ok (.ty t) S
  | .op o m a b, ρ, S => (evE a ρ S).bind fun x S => (evE b ρ S).bind fun y S => op2 o m x y S
  | .neg a, ρ, S => (evE a ρ S).bind fun x S => match x with | .d (.int i) => .ok (.d (.int (-i))) S | _ => .bad
  | .chain o o2 a b c, ρ, S => (evE a ρ S).bind fun x S => (evE b ρ S).bind fun y S => (op2 o false x y S).bind fun k S => match k with
    | .d (.bool true) => (evE c ρ S).bind fun z S => op2 o2 false y z S
    | .d (.bool false) => .ok (.d (.bool false)) S
    | _ => .bad
  | .and a b, ρ, S => (evE a ρ S).bind fun x S => match tru S x with | some true => evE b ρ S | some false => .ok x S | none => .bad
  | .or a b, ρ, S => (evE a ρ S).bind fun x S => match tru S x with | some true => .ok x S | some false => evE b ρ S | none => .bad
  | .not a, ρ, S => (evE a ρ S).bind fun x S => match tru S x with | some k => .ok (.d (.bool (!k))) S | none => .bad
  | .ife c a b, ρ, S => (evT c ρ S).bind fun k S => if k then evE a ρ S else evE b ρ S
  | .tup es, ρ, S => (evEs es ρ S).bind fun ws S => if ws.length ≤ lim then mkT ws S else .bad
  | .lst m es, ρ, S => (evEs es ρ S).bind fun ws S => if ws.length ≤ lim then mkL m ws S else .bad
  | .ix a b, ρ, S => (evE a ρ S).bind fun x S => (evE b ρ S).bind fun y S => ixW x y S
  | .sl a lo hi, ρ, S => (evE a ρ S).bind fun x S => (evO lo ρ S).bind fun l S => (evO hi ρ S).bind fun h S => slW x l h S
  | .bi b m as, ρ, S => (evEs as ρ S).bind fun ws S => biW gd b m ws S
  | .mt _ _ (.star _ _), _, _ => .bad
  | .mt k o as, ρ, S => (evE o ρ S).bind fun x S => if mtTy k S x then (evEs as ρ S).bind fun ws S => mtW k x ws S else .bad
  | .bits a, ρ, S => (evE a ρ S).bind fun x S => match x with | .d (.int i) => .ok (.d (.int (Builtin.Int.intBits i : Nat))) S | _ => .bad
  | .call f as, ρ, S => (evEs as ρ S).bind fun ws S => F f ws S
  | .comp m elt tg k src cond own, ρ, S => inLk k src ρ S fun S => if shI k src then (evEs src ρ S).bind fun ws S => match srcOf k ws S with
    | some (sr, n) => if n < lim && tgIn tg (own.map (·.2)) then
        (compGo sr (fun it S => match bindT S tg it (wipeW ρ (own.map (·.2))) with
          | some ρ' => (evIf cond ρ' S).bind fun b S => if b then (evE elt ρ' S).bind fun w S => .ok (some w) S else .ok none S
          | none => .bad) (n + 1) 0 S).bind fun l S => mkL m l S
      else .bad
    | none => .bad
    else .bad
  | .bad, _, _ => .bad
  | .un u m a, ρ, S => (evE a ρ S).bind fun x S => u1W u m x S
  | .dnew t, _, S => .ok (.ref S.length) (S ++ [if t then .dt [] else .dk []])
  | .gin neg a i, ρ, S => (evE a ρ S).bind fun x S => (match ginB gd neg i x with | some b => .ok (.d (.bool b)) S | none => .bad)
  | .gix i a, ρ, S => (evE a ρ S).bind fun x S => (match gixW gd i x with | some p => .ok (.d p) S | none => .bad)
  | .new c f as, ρ, S => (evEs as ρ S).bind fun ws S => (F f (.ref S.length :: ws) (S ++ [.ins c []])).bind fun w S2 => (match w with | .d .none => .ok (.ref S.length) S2 | _ => .bad)
  | .meth c f m o as, ρ, S => (evE o ρ S).bind fun x S => (match insW S c x with | some fs => if (fs.lookup m).isNone then (evEs as ρ S).bind fun ws S => F f (x :: ws) S else .bad | none => .bad)
  | .fld c x o, ρ, S => (evE o ρ S).bind fun y S => (match insW S c y with | some fs => (match fs.lookup x with | some w => .ok w S | none => .bad) | none => .bad)
  | .dcomp key elt tg k src cond own, ρ, S => inLk k src ρ S fun S => if shI k src then (evEs src ρ S).bind fun ws S => match srcOf k ws S with
    | some (sr, n) => if n < lim && tgIn tg (own.map (·.2)) then
        (dcGo sr (fun it S => match bindT S tg it (wipeW ρ (own.map (·.2))) with
          | some ρ' => (evIf cond ρ' S).bind fun b S => if b then (evE key ρ' S).bind fun x S => (evE elt ρ' S).bind fun w S => .ok (some (x, w)) S else .ok none S
          | none => .bad) (n + 1) 0 [] S).bind fun l S => .ok (.ref S.length) (S ++ [.dk l])
      else .bad
    | none => .bad
    else .bad
  | .mk c .nil _, _, S => if gd.ex c then .ok (.exn c (.d .none)) S else .bad
  | .mk c (.cons a .nil) _, ρ, S => if gd.hv c && gd.ex c then (evE a ρ S).bind fun w S => .ok (.exn c w) S else .bad
  | .mk _ _ _, _, _ => .bad
  | .val a, ρ, S => (evE a ρ S).bind fun x S => valW gd x S
  | .eqX a b, ρ, S => if isMk b then (evE a ρ S).bind fun x S => (evE b ρ S).bind fun y S => neX gd x y S else .bad
def evEs : MEs → Rho → Sto → R (List W)
  | .nil, _, S => .ok [] S
  | .cons a r, ρ, S => (evE a ρ S).bind fun x S => (evEs r ρ S).bind fun l S => .ok (x :: l) S
  | .star a r, ρ, S => (evE a ρ S).bind fun x S => match seqLT S x with | some xs => (evEs r ρ S).bind fun l S => .ok (xs ++ l) S | none => .bad
def evO : MO → Rho → Sto → R (Option Int)
  | .none, _, S => .ok none S
  | .some a, ρ, S => (evE a ρ S).bind fun x S => match x with | .d (.int i) => .ok (some i) S | _ => .bad
def evIf : MO → Rho → Sto → R Bool
  | .none, _, S => .ok true S
  | .some a, ρ, S => evT a ρ S
def evT : ME → Rho → Sto → R Bool
  | .and a b, ρ, S => (evT a ρ S).bind fun k S => if k then evT b ρ S else .ok false S
  | .or a b, ρ, S => (evT a ρ S).bind fun k S => if k then .ok true S else evT b ρ S
  | .not a, ρ, S => (evT a ρ S).bind fun k S => .ok (!k) S
  | .op o m a b, ρ, S => (evE a ρ S).bind fun x S => (evE b ρ S).bind fun y S => (op2 o m x y S).bind fun w S =>
      if o.cmp.isSome then (match w with | .d (.bool k) => .ok k S | _ => .bad) else (match tru S w with | some k => .ok k S | none => .bad)
  | .chain o o2 a b c, ρ, S => (evE a ρ S).bind fun x S => (evE b ρ S).bind fun y S => (op2 o false x y S).bind fun k S => match k with
    | .d (.bool true) => (evE c ρ S).bind fun z S => (op2 o2 false y z S).bind fun w S => (match w with | .d (.bool k) => .ok k S | _ => .bad)
    | .d (.bool false) => .ok false S
    | _ => .bad
  | .var i, ρ, S => match ρ[i]? with | some (some w) => (match tru S w with | some k => .ok k S | none => .bad) | _ => .bad
  | .cst c, _, S => match tru S (.d c.D) with | some k => .ok k S | none => .bad
  | .glb i, _, S => match tru S (gd.v i) with | some k => .ok k S | none => .bad
  | .ix a b, ρ, S => (evE a ρ S).bind fun x S => (evE b ρ S).bind fun y S => (ixW x y S).bind fun w S => match tru S w with | some k => .ok k S | none => .bad
  | .bi b m as, ρ, S => (evEs as ρ S).bind fun ws S => (biW gd b m ws S).bind fun w S => match tru S w with | some k => .ok k S | none => .bad
  | .call f as, ρ, S => (evEs as ρ S).bind fun ws S => (F f ws S).bind fun w S => match tru S w with | some k => .ok k S | none => .bad
  | .val a, ρ, S => ((evE a ρ S).bind fun x S => valW gd x S).bind fun w S => match tru S w with | some k => .ok k S | none => .bad
  | .un u m a, ρ, S => ((evE a ρ S).bind fun x S => u1W u m x S).bind fun w S => match tru S w with | some k => .ok k S | none => .bad
  | .gin neg a i, ρ, S => (evE a ρ S).bind fun x S => (match ginB gd neg i x with | some b => .ok b S | none => .bad)
  | .meth c f m o as, ρ, S => (evE o ρ S).bind fun x S => (match insW S c x with | some fs => if (fs.lookup m).isNone then (evEs as ρ S).bind fun ws S => (F f (x :: ws) S).bind fun w S => (match tru S w with | some k => .ok k S | none => .bad) else .bad | none => .bad)
  | .fld c x o, ρ, S => (evE o ρ S).bind fun y S => (match insW S c y with | some fs => (match fs.lookup x with | some w => (match tru S w with | some k => .ok k S | none => .bad) | none => .bad) | none => .bad)
  | _, _, _ => .bad
end
inductive RS where | next (ρ : Rho) (S : Sto) | brk (ρ : Rho) (S : Sto) | cont (ρ : Rho) (S : Sto) | ret (w : W) (S : Sto) | exc (c : Nat) (v : W) (ρ : Rho) (S : Sto) | bad
def R.toS {α : Type} (r : R α) (ρ : Rho) (f : α → Sto → RS) : RS := match r with | .ok a S => f a S | .exc c v S => .exc c v ρ S | .bad => .bad
def asgG (g : MG) (w : W) (ρ : Rho) (S : Sto) (k : Rho → Sto → RS) : RS :=
  match g with
  | .nm i => k (ρ.set i (some w)) S
  | .sub a i => (evE F gd a ρ S).toS ρ fun x S => (evE F gd i ρ S).toS ρ fun y S => (setW x y w S).toS ρ fun _ S => k ρ S
  | .fld c x o => (evE F gd o ρ S).toS ρ fun y S => (match y with | .ref n => (match insW S c (.ref n) with | some fs => if fs.length < 1000 then k ρ (S.set n (.ins c (putFW x w fs))) else .bad | none => .bad) | _ => .bad)
def asgGs : List MG → List W → Rho → Sto → (Rho → Sto → RS) → RS
  | [], [], ρ, S, k => k ρ S
  | g :: gs, w :: ws, ρ, S, k => asgG F gd g w ρ S fun ρ S => asgGs gs ws ρ S k
  | _, _, _, _, _ => .bad
def forGo (src : Src) (tg : MT) (f : Rho → Sto → RS) : Nat → Nat → Rho → Sto → RS
  | 0, _, _, _ => .bad
  | n + 1, i, ρ, S => match itemAt S i src with
    | some none => .next ρ S
    | some (some it) => (match bindT S tg it ρ with
      | some ρ1 => (match f ρ1 S with
        | .next ρ2 S2 => forGo src tg f n (i + 1) ρ2 S2
        | .cont ρ2 S2 => forGo src tg f n (i + 1) ρ2 S2
        | .brk ρ2 S2 => .next ρ2 S2
        | x => x)
      | none => .bad)
    | none => .bad
/-- the lock goes -/
def unlkS (n : Nat) : RS → RS
  | .next ρ S => (match MP.unlk n S with | some S' => .next ρ S' | none => .bad)
  | .ret w S => (match MP.unlk n S with | some S' => .ret w S' | none => .bad)
  | .exc c w ρ S => .exc c w ρ S
  | _ => .bad
def inLkS (k : IK) (src : MEs) (ρ : Rho) (S : Sto) (f : Sto → RS) : RS :=
  if k.lock then (match lkOf k src ρ S with | some (n, kvs) => unlkS n (f (S.set n (.lk kvs))) | none => .bad) else f S
def slotSet (slot : Option Nat) (w : Option W) (ρ : Rho) : Rho := match slot with | some i => ρ.set i w | none => ρ
/-- behind an except suite the name is gone -/
def outTry (slot : Option Nat) : RS → RS
  | .next ρ S => .next (slotSet slot none ρ) S
  | .brk ρ S => .brk (slotSet slot none ρ) S
  | .cont ρ S => .cont (slotSet slot none ρ) S
  | .ret w S => .ret w S
  | _ => .bad
def whlGo (c : Rho → Sto → R Bool) (f : Rho → Sto → RS) : Nat → Rho → Sto → RS
  | 0, _, _ => .bad
  | n + 1, ρ, S => (c ρ S).toS ρ fun b S => if b then (match f ρ S with
      | .next ρ2 S2 => whlGo c f n ρ2 S2
      | .cont ρ2 S2 => whlGo c f n ρ2 S2
      | .brk ρ2 S2 => .next ρ2 S2
      | x => x) else .next ρ S
variable (wf : Nat)
mutual
def exS : MS → Rho → Sto → RS
  | .asg g e, ρ, S => (evE F gd e ρ S).toS ρ fun w S => asgG F gd g w ρ S .next
  | .asgT gs e, ρ, S => (evE F gd e ρ S).toS ρ fun w S => match seqT S w with | some ws => if ws.length = gs.length then asgGs F gd gs ws ρ S .next else .bad | none => .bad
  | .par is es, ρ, S => if is.length = 2 ∨ is.length = 3 then (evEs F gd es ρ S).toS ρ fun ws S => match setIs is ws ρ with | some ρ' => .next ρ' S | none => .bad else .bad
  | .aug i o e, ρ, S => if o.inp.isSome then (match ρ[i]? with
    | some (some (.d (.int a))) => (evE F gd e ρ S).toS ρ fun y S => (match y with
      | .d (.int b) => (match o with
        | .add => .next (ρ.set i (some (.d (.int (a + b))))) S
        | .sub => .next (ρ.set i (some (.d (.int (a - b))))) S
        | .mul => if (Builtin.Int.intBits a : Int) + (Builtin.Int.intBits b : Int) ≤ 134217728 then .next (ρ.set i (some (.d (.int (a * b))))) S else .bad
        | _ => .bad)
      | _ => .bad)
    | _ => .bad) else .bad
  | .rse c a, ρ, S => if gd.hv c && gd.ex c then (evE F gd a ρ S).toS ρ fun w S => .exc c w ρ S else .bad
  | .expr e, ρ, S => (evE F gd e ρ S).toS ρ fun _ S => .next ρ S
  | .ret e, ρ, S => (evE F gd e ρ S).toS ρ fun w S => .ret w S
  | .retN, _, S => .ret (.d .none) S
  | .pass, ρ, S => .next ρ S
  | .bad, _, _ => .bad
  | .brk, ρ, S => .brk ρ S
  | .cont, ρ, S => .cont ρ S
  | .ife c a b, ρ, S => (evT F gd c ρ S).toS ρ fun k S => if k then exSs a ρ S else exSs b ρ S
  | .fors tg k src body, ρ, S => inLkS k src ρ S fun S => if shI k src then (evEs F gd src ρ S).toS ρ fun ws S => match srcOf k ws S with
    | some (sr, n) => forGo sr tg (fun ρ S => exSs body ρ S) (n + 1) 0 ρ S
    | none => .bad
    else .bad
  | .tryAs body c slot suite, ρ, S => (match exSs body ρ S with
    | .exc c' w ρ' S' => (match gd.sub c' (.own c) with
      | some true => outTry slot (exSs suite (slotSet slot (some (.exn c' w)) ρ') S')
      | some false => .exc c' w ρ' S'
      | none => .bad)
    | r => r)
  | .whl c body, ρ, S => whlGo (fun ρ S => evT F gd c ρ S) (fun ρ S => exSs body ρ S) wf ρ S
def exSs : MSs → Rho → Sto → RS
  | .nil, ρ, S => .next ρ S
  | .cons s r, ρ, S => match exS s ρ S with
    | .next ρ S => exSs r ρ S
    | x => x
end
end
/-- a function: how many parameters, how many names, its body; whether its lists are handed out as they are -/
structure Fn where
  np : Nat
  nn : Nat
  body : MSs
  raw : Bool
def closedW (n : Nat) : W → Bool | .d _ => true | .ref m => decide (m < n) | .ty _ => true | .cls _ => true | .exn _ w => closedW n w
def closedO (n : Nat) : O → Bool | .lst ws => ws.all (closedW n) | .tup ws => ws.all (closedW n) | .dk kvs => kvs.all (fun p => closedW n p.2) | .dt kvs => kvs.all (fun p => closedW n p.2) | .lk kvs => kvs.all (fun p => closedW n p.2) | .ins _ fs => fs.all (fun p => closedW n p.2) | .dead => true
/-- a value handed out: what was made within stands as data -/
def frzW (n₀ : Nat) (S : Sto) : W → Option W
  | .ref n => if n < n₀ then some (.ref n) else (rb n₀ deep S (.ref n)).map .d
  | .exn c w => (frzW n₀ S w).map (.exn c)
  | w => some w
def leaveW (raw : Bool) (n₀ : Nat) (w : W) (S : Sto) : R W :=
  if raw then .ok w S else if (S.take n₀).all (closedO n₀) then (match frzW n₀ S w with | some x => .ok x (S.take n₀) | none => .bad) else .bad
def runF (fs : List Fn) (gd : Gd) (wf : Nat) : Nat → Nat → List W → Sto → R W
  | 0, _, _, _ => .bad
  | n + 1, f, ws, S => match fs[f]? with
    | none => .bad
    | some d => if ws.length = d.np then (match exSs (runF fs gd wf n) gd wf d.body (ws.map some ++ List.replicate (d.nn - ws.length) none) S with
      | .ret w S' => leaveW d.raw S.length w S'
      | .next _ S' => leaveW d.raw S.length (.d .none) S'
      | .exc c v _ S' => (match leaveW false S.length v S' with | .ok w S2 => .exc c w S2 | _ => .bad)
      | _ => .bad) else .bad
end MP
namespace MP
open PySem L2 PyProof.Rows PySem.Spec
/-! ## pairs of lists -/
section
variable {α β γ : Type} {F G : α → β → Prop}
theorem pget : ∀ {xs : List α} {ys : List β} {i : Nat} {x : α}, Paired F xs ys → xs[i]? = some x → ∃ y, ys[i]? = some y ∧ F x y
  | _, _, _, _, .nil, e => by simp at e
  | _, _, 0, _, .cons r _, e => by simp at e; subst e; exact ⟨_, rfl, r⟩
  | _, _, i + 1, x, .cons _ t, e => by
    obtain ⟨y, h1, h2⟩ := pget (i := i) (x := x) t (by simpa using e)
    exact ⟨y, by simpa using h1, h2⟩
theorem papp : ∀ {xs xs' : List α} {ys ys' : List β}, Paired F xs ys → Paired F xs' ys' → Paired F (xs ++ xs') (ys ++ ys')
  | _, _, _, _, .nil, s => s
  | _, _, _, _, .cons r t, s => .cons r (papp t s)
theorem pset {x : α} {y : β} (r : F x y) : ∀ {xs : List α} {ys : List β} (i : Nat), Paired F xs ys → Paired F (xs.set i x) (ys.set i y)
  | _, _, _, .nil => .nil
  | _, _, 0, .cons _ t => .cons r t
  | _, _, i + 1, .cons q t => .cons q (pset r i t)
theorem ptake : ∀ {xs : List α} {ys : List β} (n : Nat), Paired F xs ys → Paired F (xs.take n) (ys.take n)
  | _, _, 0, _ => .nil
  | _, _, _ + 1, .nil => .nil
  | _, _, n + 1, .cons r t => .cons r (ptake n t)
theorem pdrop : ∀ {xs : List α} {ys : List β} (n : Nat), Paired F xs ys → Paired F (xs.drop n) (ys.drop n)
  | _, _, 0, r => r
  | _, _, _ + 1, .nil => .nil
  | _, _, n + 1, .cons _ t => pdrop n t
theorem perase : ∀ {xs : List α} {ys : List β} (n : Nat), Paired F xs ys → Paired F (xs.eraseIdx n) (ys.eraseIdx n)
  | _, _, _, .nil => .nil
  | _, _, 0, .cons _ t => t
  | _, _, n + 1, .cons r t => .cons r (perase n t)
theorem prep : ∀ {xs : List α} {ys : List β} (n : Nat), Paired F xs ys → Paired F (List.replicate n xs).flatten (List.replicate n ys).flatten
  | _, _, 0, _ => .nil
  | _, _, n + 1, r => by
    rw [List.replicate_succ, List.replicate_succ, List.flatten_cons, List.flatten_cons]
    exact papp r (prep n r)
theorem pdropLast {xs : List α} {ys : List β} (r : Paired F xs ys) : Paired F xs.dropLast ys.dropLast := by
  rw [List.dropLast_eq_take, List.dropLast_eq_take, r.length]
  exact ptake _ r
end

/-! ## data in the heap -/
mutual
inductive At (K : PySem.W.Frag) (F : Hp) : V → PyData → Prop
  | non : At K F .non .none
  | bl (b : Bool) : At K F (.bl b) (.bool b)
  | int (i : Int) : At K F (.int i) (.int i)
  | str (x : Str) : At K F (.str x) (.str x)
  | lst {a : Addr} {xs : List V} {ds : List PyData} : SqL K F a xs → xs.length ≤ sizeLine → AtL K F xs ds → At K F (.ref a) (.list ds)
  | tup {a : Addr} {xs : List V} {ds : List PyData} : F a = some (.tup xs) → xs.length ≤ sizeLine → AtL K F xs ds → At K F (.ref a) (.tuple ds)
  | dk {a : Addr} {kv : List (Key × V)} {ds : List (PyData × PyData)} : F a = some (.dK kv) → AtK K F kv ds → At K F (.ref a) (.dict ds)
  | dt {a : Addr} {kv : List (List Key × V)} {ds : List (PyData × PyData)} : F a = some (.dT kv) → AtT K F kv ds → At K F (.ref a) (.dict ((.none, .none) :: ds))
inductive AtL (K : PySem.W.Frag) (F : Hp) : List V → List PyData → Prop
  | nil : AtL K F [] []
  | cons {v : V} {vs : List V} {d : PyData} {ds : List PyData} : At K F v d → AtL K F vs ds → AtL K F (v :: vs) (d :: ds)
inductive AtK (K : PySem.W.Frag) (F : Hp) : List (Key × V) → List (PyData × PyData) → Prop
  | nil : AtK K F [] []
  | cons {k : Key} {v : V} {vs : List (Key × V)} {d : PyData} {ds : List (PyData × PyData)} : At K F v d → AtK K F vs ds → AtK K F ((k, v) :: vs) ((keyD k, d) :: ds)
inductive AtT (K : PySem.W.Frag) (F : Hp) : List (List Key × V) → List (PyData × PyData) → Prop
  | nil : AtT K F [] []
  | cons {k : List Key} {v : V} {vs : List (List Key × V)} {d : PyData} {ds : List (PyData × PyData)} : At K F v d → AtT K F vs ds → AtT K F ((k, v) :: vs) ((keyT k, d) :: ds)
end
def Ex (H H' : Hp) : Prop := ∀ a o, H a = some o → H' a = some o
theorem Ex.rd {H H' : Hp} {a : Addr} {u : HO} (e : Ex H H') (h : Rd H a u) : Rd H' a u := h.elim (fun h => .inl (e a _ h)) fun ⟨o, h⟩ => .inr ⟨o, e a _ h⟩
theorem Ex.l {K : PySem.W.Frag} {H H' : Hp} {a : Addr} {xs : List V} (e : Ex H H') (h : SqL K H a xs) : SqL K H' a xs := h.elim (fun h => .inl (e.rd h)) .inr
theorem Ex.t {K : PySem.W.Frag} {H H' : Hp} {a : Addr} {xs : List V} (e : Ex H H') (h : SqT K H a xs) : SqT K H' a xs := h.elim (fun h => .inl (e.rd h)) .inr
theorem Ex.new {H : Hp} {p : Addr} {o : HO} (h : H p = none) : Ex H (upd H p o) := fun a u e => by
  rw [upd_ne (ne_of_none e h)]
  exact e
section
variable {K : PySem.W.Frag} {F F' : Hp}
mutual
theorem At.mono (e : Ex F F') : ∀ {v : V} (d : PyData), At K F v d → At K F' v d
  | _, .none, .non => .non
  | _, .bool _, .bl b => .bl b
  | _, .int _, .int i => .int i
  | _, .str _, .str x => .str x
  | _, .list ds, .lst h z r => .lst (e.l h) z (AtL.mono e ds r)
  | _, .tuple ds, .tup h z r => .tup (e _ _ h) z (AtL.mono e ds r)
  | _, .dict ds, .dk h r => .dk (e _ _ h) (AtK.mono e ds r)
  | _, .dict (_ :: ds), .dt h r => .dt (e _ _ h) (AtT.mono e ds r)
theorem AtL.mono (e : Ex F F') : ∀ {v : List V} (d : List PyData), AtL K F v d → AtL K F' v d
  | _, [], .nil => .nil
  | _, d :: ds, .cons h t => .cons (At.mono e d h) (AtL.mono e ds t)
theorem AtK.mono (e : Ex F F') : ∀ {v : List (Key × V)} (d : List (PyData × PyData)), AtK K F v d → AtK K F' v d
  | _, [], .nil => .nil
  | _, (_, d) :: ds, .cons h t => .cons (At.mono e d h) (AtK.mono e ds t)
theorem AtT.mono (e : Ex F F') : ∀ {v : List (List Key × V)} (d : List (PyData × PyData)), AtT K F v d → AtT K F' v d
  | _, [], .nil => .nil
  | _, (_, d) :: ds, .cons h t => .cons (At.mono e d h) (AtT.mono e ds t)
end
theorem AtL.length : ∀ {vs : List V} {ds : List PyData}, AtL K F vs ds → vs.length = ds.length
  | _, [], .nil => rfl
  | _, _ :: _, .cons _ t => by rw [List.length_cons, List.length_cons, AtL.length t]
mutual
theorem At.dp : ∀ {v : V} (d : PyData), At K F v d → d.canLay0 = true → Dp K F v d
  | _, .none, .non, _ => .non
  | _, .bool _, .bl b, _ => .bl b
  | _, .int _, .int i, _ => .int i
  | _, .str _, .str x, _ => .str x
  | _, .list ds, .lst h z r, c => .lst h (AtL.dp ds r (by simpa [PyData.canLay0] using c))
  | _, .tuple ds, .tup h z r, c => .tup (.inl (.inl h)) (AtL.dp ds r (by simpa [PyData.canLay0] using c))
  | _, .dict ds, _, c => by simp [PyData.canLay0] at c
theorem AtL.dp : ∀ {v : List V} (d : List PyData), AtL K F v d → PyData.canLayAll0 d = true → DpAll K F v d
  | _, [], .nil, _ => .nil
  | _, d :: ds, .cons h t, c => by
    simp only [PyData.canLayAll0, Bool.and_eq_true] at c
    exact .cons (At.dp d h c.1) (AtL.dp ds t c.2)
end
end

/-! ## the store in the heap -/
def WR (G : Gb) (ι : List Addr) (F : Hp) : W → V → Prop
  | .d x => fun v => At G.K F v x
  | .ref n => fun v => ∃ a, ι[n]? = some a ∧ v = .ref a
  | .ty t => fun v => v = .ty t
  | .cls j => fun v => v = .ref (G.cl j)
  | .exn c w => fun v => ∃ a, v = .ref a ∧ if G.hv c = true then ∃ d x, F a = some (MPX.exo a (G.cl c) (some d)) ∧ F d = some (.xd [("value", x)]) ∧ WR G ι F w x else F a = some (MPX.exo a (G.cl c) none)
abbrev WRs (G : Gb) (ι : List Addr) (F : Hp) : List W → List V → Prop := Paired (WR G ι F)
def KR {κ : Type} (G : Gb) (ι : List Addr) (F : Hp) : List (κ × W) → List (κ × V) → Prop := Paired fun (p : κ × W) (q : κ × V) => p.1 = q.1 ∧ WR G ι F p.2 q.2
def OR (G : Gb) (ι : List Addr) (F H : Hp) (a : Addr) : O → Prop
  | .lst ws => F a = none ∧ ∃ xs, H a = some (.lst xs) ∧ xs.length ≤ sizeLine ∧ WRs G ι F ws xs
  | .tup ws => F a = none ∧ ∃ xs, H a = some (.tup xs) ∧ xs.length ≤ sizeLine ∧ WRs G ι F ws xs
  | .dk kvs => F a = none ∧ ∃ kv, H a = some (.dK kv) ∧ KR G ι F kvs kv
  | .dt kvs => F a = none ∧ ∃ kv, H a = some (.dT kv) ∧ KR G ι F kvs kv
  | .lk kvs => F a = none ∧ ∃ od kv, H a = some (.frz od (.dK kv)) ∧ KR G ι F kvs kv
  | .ins c fs => F a = none ∧ ∃ dx kv, H a = some (.ins (G.co c) dx kv) ∧ KR G ι F fs kv
  | .dead => True
structure GoodS (G : Gb) (ι : List Addr) (F : Hp) (S : Sto) (H : Hp) : Prop where
  ex : Ex F H
  len : ι.length = S.length
  nd : ι.Nodup
  obj : ∀ (n : Nat) (o : O) (a : Addr), S[n]? = some o → ι[n]? = some a → OR G ι F H a o
  fr : ∀ a ∈ ι, H a ≠ none
structure Le (ι : List Addr) (F H : Hp) (ι' : List Addr) (F' H' : Hp) : Prop where
  pre : ι <+: ι'
  ex : Ex F F'
  dom : ∀ a, H a ≠ none → H' a ≠ none
  keep : ∀ a o, a ∉ ι → H a = some o → H' a = some o
  newF : ∀ a, a ∉ ι → F a = none → H a ≠ none → F' a = none
  newL : ∀ a ∈ ι', a ∉ ι → H a = none
  frz : ∀ a o u, H a = some (.frz o u) → H' a = some (.frz o u)
section
variable {G : Gb} {ι ι' ι2 : List Addr} {F F' F2 H H' H2 : Hp} {S S' : Sto}
theorem Le.refl (ι : List Addr) (F H : Hp) : Le ι F H ι F H := ⟨List.prefix_refl _, fun _ _ h => h, fun _ h => h, fun _ _ _ h => h, fun _ _ h _ => h, fun _ h n => absurd h n, fun _ _ _ h => h⟩
theorem Le.trans (a : Le ι F H ι' F' H') (b : Le ι' F' H' ι2 F2 H2) : Le ι F H ι2 F2 H2 where
  pre := a.pre.trans b.pre
  ex := fun x o h => b.ex x o (a.ex x o h)
  dom := fun x h => b.dom x (a.dom x h)
  keep := fun x o h e => b.keep x o (fun m => by rw [a.newL x m h] at e; cases e) (a.keep x o h e)
  newF := fun x h e n => b.newF x (fun m => n (a.newL x m h)) (a.newF x h e n) (a.dom x n)
  newL := fun x h n => by
    by_cases m : x ∈ ι'
    · exact a.newL x m n
    · have z := b.newL x h m
      cases q : H x with
      | none => rfl
      | some o => exact absurd z (a.dom x (by rw [q]; exact fun z => by cases z))
  frz := fun x o u h => b.frz x o u (a.frz x o u h)
theorem pre_get {α : Type} {l l' : List α} {n : Nat} {a : α} (p : l <+: l') (h : l[n]? = some a) : l'[n]? = some a := by
  obtain ⟨r, rfl⟩ := p
  rw [List.getElem?_append_left (List.getElem?_eq_some_iff.mp h).1]
  exact h
theorem WR.up (p : ι <+: ι') (e : Ex F F') : ∀ {w : W} {v : V}, WR G ι F w v → WR G ι' F' w v
  | .d x, _, h => At.mono e x h
  | .ref n, _, ⟨a, h1, h2⟩ => ⟨a, pre_get p h1, h2⟩
  | .ty t, _, h => h
  | .cls j, _, h => h
  | .exn c w, v, ⟨a, hv, h⟩ => by
    refine ⟨a, hv, ?_⟩
    by_cases hc : G.hv c = true
    · rw [if_pos hc] at h ⊢
      obtain ⟨d, x, h1, h2, h3⟩ := h
      exact ⟨d, x, e _ _ h1, e _ _ h2, WR.up p e h3⟩
    · rw [if_neg hc] at h ⊢
      exact e _ _ h
theorem WR.le (l : Le ι F H ι' F' H') {w : W} {v : V} (h : WR G ι F w v) : WR G ι' F' w v := h.up l.pre l.ex
theorem WRs.up (p : ι <+: ι') (e : Ex F F') {w : List W} {v : List V} (h : WRs G ι F w v) : WRs G ι' F' w v := Paired.mapP h fun _ _ r => r.up p e
theorem KR.up {κ : Type} (p : ι <+: ι') (e : Ex F F') {w : List (κ × W)} {v : List (κ × V)} (h : KR G ι F w v) : KR G ι' F' w v := Paired.mapP h fun _ _ r => ⟨r.1, r.2.up p e⟩
/-- an object's description stays while its own cell does -/
theorem OR.up {a : Addr} {o : O} (p : ι <+: ι') (e : Ex F F') (hF : F a = none → F' a = none) (hH : ∀ u, H a = some u → H' a = some u) (h : OR G ι F H a o) : OR G ι' F' H' a o := by
  cases o with
  | lst ws => obtain ⟨f, xs, h1, h2, h3⟩ := h; exact ⟨hF f, xs, hH _ h1, h2, h3.up p e⟩
  | tup ws => obtain ⟨f, xs, h1, h2, h3⟩ := h; exact ⟨hF f, xs, hH _ h1, h2, h3.up p e⟩
  | dk kvs => obtain ⟨f, xs, h1, h2⟩ := h; exact ⟨hF f, xs, hH _ h1, h2.up p e⟩
  | dt kvs => obtain ⟨f, xs, h1, h2⟩ := h; exact ⟨hF f, xs, hH _ h1, h2.up p e⟩
  | lk kvs => obtain ⟨f, od, xs, h1, h2⟩ := h; exact ⟨hF f, od, xs, hH _ h1, h2.up p e⟩
  | ins c fs => obtain ⟨f, dx, xs, h1, h2⟩ := h; exact ⟨hF f, dx, xs, hH _ h1, h2.up p e⟩
  | dead => trivial
/-- data laid at p -/
theorem GoodS.data {p : Addr} {u : HO} (g : GoodS G ι F S H) (hp : H p = none) : GoodS G ι (upd F p u) S (upd H p u) ∧ Le ι F H ι (upd F p u) (upd H p u) := by
  have hF : F p = none := by
    cases q : F p with
    | none => rfl
    | some o => rw [g.ex p o q] at hp; cases hp
  have nm : ∀ a ∈ ι, a ≠ p := fun a ha z => g.fr a ha (by rw [z]; exact hp)
  have ex : Ex F (upd F p u) := Ex.new hF
  refine ⟨⟨fun a o h => ?_, g.len, g.nd, fun n o a h1 h2 => ?_, fun a ha => ?_⟩, ⟨List.prefix_refl _, ex, fun a h => ?_, fun a o _ h => ?_, fun a _ h n => ?_, fun a h n => absurd h n, fun a o u h => by rw [upd_ne (ne_of_none h hp)]; exact h⟩⟩
  · by_cases z : a = p
    · subst z; rw [upd_same] at h; rw [upd_same]; exact h
    · rw [upd_ne z] at h; rw [upd_ne z]; exact g.ex a o h
  · have z := nm a (List.mem_of_getElem? h2)
    exact (g.obj n o a h1 h2).up (List.prefix_refl _) ex (fun h => by rw [upd_ne z]; exact h) (fun v h => by rw [upd_ne z]; exact h)
  · rw [upd_ne (nm a ha)]; exact g.fr a ha
  · by_cases z : a = p
    · subst z; rw [upd_same]; exact fun q => by cases q
    · rw [upd_ne z]; exact h
  · rw [upd_ne (ne_of_none h hp)]; exact h
  · rw [upd_ne (fun z => n (by rw [z]; exact hp))]; exact h
/-- a new object of the store at p -/
theorem GoodS.push {p : Addr} {u : HO} {o : O} (g : GoodS G ι F S H) (hp : H p = none) (ho : OR G (ι ++ [p]) F (upd H p u) p o) : GoodS G (ι ++ [p]) F (S ++ [o]) (upd H p u) ∧ Le ι F H (ι ++ [p]) F (upd H p u) := by
  have nm : ∀ a ∈ ι, a ≠ p := fun a ha z => g.fr a ha (by rw [z]; exact hp)
  have pre : ι <+: ι ++ [p] := List.prefix_append _ _
  refine ⟨⟨fun a o h => ?_, by simp [g.len], ?_, fun n o' a h1 h2 => ?_, fun a ha => ?_⟩, ⟨pre, fun _ _ h => h, fun a h => ?_, fun a o _ h => ?_, fun a _ h n => h, fun a h n => ?_, fun a o u h => by rw [upd_ne (ne_of_none h hp)]; exact h⟩⟩
  · rw [upd_ne (ne_of_none (g.ex a o h) hp)]; exact g.ex a o h
  · rw [List.nodup_append]
    exact ⟨g.nd, by simp, fun a ha b hb => by simp at hb; subst hb; exact nm a ha⟩
  · by_cases hn : n < S.length
    · rw [List.getElem?_append_left hn] at h1
      rw [List.getElem?_append_left (by rw [g.len]; exact hn)] at h2
      have z := nm a (List.mem_of_getElem? h2)
      exact (g.obj n o' a h1 h2).up pre (fun _ _ h => h) id (fun v h => by rw [upd_ne z]; exact h)
    · rw [List.getElem?_append_right (by omega)] at h1
      rw [List.getElem?_append_right (by rw [g.len]; omega)] at h2
      have e : n - S.length = 0 := by
        have := (List.getElem?_eq_some_iff.mp h1).1
        simp at this; omega
      rw [e] at h1
      rw [g.len, e] at h2
      simp at h1 h2
      subst h1 h2
      exact ho
  · rcases List.mem_append.mp ha with h | h
    · rw [upd_ne (nm a h)]; exact g.fr a h
    · simp at h; subst h; rw [upd_same]; exact fun q => by cases q
  · by_cases z : a = p
    · subst z; rw [upd_same]; exact fun q => by cases q
    · rw [upd_ne z]; exact h
  · rw [upd_ne (ne_of_none h hp)]; exact h
  · rcases List.mem_append.mp h with h | h
    · exact absurd h n
    · simp at h; subst h; exact hp
/-- an object of the store is changed -/
theorem GoodS.put {n : Nat} {a : Addr} {u : HO} {o o0 : O} (g : GoodS G ι F S H) (h0 : S[n]? = some o0) (ha : ι[n]? = some a) (hf : F a = none) (ho : OR G ι F (upd H a u) a o) : GoodS G ι F (S.set n o) (upd H a u) := by
  refine ⟨fun b v h => ?_, by simp [g.len], g.nd, fun m o' b h1 h2 => ?_, fun b hb => ?_⟩
  · rw [upd_ne (ne_of_none h hf)]; exact g.ex b v h
  · by_cases hm : m = n
    · subst hm
      rw [List.getElem?_set_self (List.getElem?_eq_some_iff.mp h0).1] at h1
      cases h1
      rw [ha] at h2; cases h2
      exact ho
    · rw [List.getElem?_set_ne (Ne.symm hm)] at h1
      have hb : b ≠ a := fun z => by
        subst z
        obtain ⟨l1, e1⟩ := List.getElem?_eq_some_iff.mp h2
        obtain ⟨l2, e2⟩ := List.getElem?_eq_some_iff.mp ha
        exact hm ((List.getElem_inj g.nd).mp (e1.trans e2.symm))
      exact (g.obj m o' b h1 h2).up (List.prefix_refl _) (fun _ _ h => h) id (fun v h => by rw [upd_ne hb]; exact h)
  · by_cases z : b = a
    · subst z; rw [upd_same]; exact fun q => by cases q
    · rw [upd_ne z]; exact g.fr b hb
theorem GoodS.write {n : Nat} {a : Addr} {u : HO} {o o0 : O} (g : GoodS G ι F S H) (h0 : S[n]? = some o0) (ha : ι[n]? = some a) (hf : F a = none) (hz : ∀ o u, H a ≠ some (.frz o u)) (ho : OR G ι F (upd H a u) a o) : GoodS G ι F (S.set n o) (upd H a u) ∧ Le ι F H ι F (upd H a u) := by
  refine ⟨g.put h0 ha hf ho, ⟨List.prefix_refl _, fun _ _ h => h, fun b h => ?_, fun b v hb h => ?_, fun b _ h _ => h, fun b h n => absurd h n, fun b o v h => by rw [upd_ne (fun z => hz o v (by rw [← z]; exact h))]; exact h⟩⟩
  · by_cases z : b = a
    · subst z; rw [upd_same]; exact fun q => by cases q
    · rw [upd_ne z]; exact h
  · rw [upd_ne (fun z => hb (by rw [z]; exact List.mem_of_getElem? ha))]; exact h
/-- a cell beside data and objects -/
theorem GoodS.beside {p : Addr} {u : HO} (g : GoodS G ι F S H) (hp : H p = none) : GoodS G ι F S (upd H p u) ∧ Le ι F H ι F (upd H p u) := by
  have nm : ∀ a ∈ ι, a ≠ p := fun a ha z => g.fr a ha (by rw [z]; exact hp)
  refine ⟨⟨fun a o h => ?_, g.len, g.nd, fun n o a h1 h2 => ?_, fun a ha => ?_⟩, ⟨List.prefix_refl _, fun _ _ h => h, fun a h => ?_, fun a o _ h => ?_, fun a _ h _ => h, fun a h n => absurd h n, fun a o u h => by rw [upd_ne (ne_of_none h hp)]; exact h⟩⟩
  · rw [upd_ne (ne_of_none (g.ex a o h) hp)]; exact g.ex a o h
  · have z := nm a (List.mem_of_getElem? h2)
    exact (g.obj n o a h1 h2).up (List.prefix_refl _) (fun _ _ h => h) id (fun v h => by rw [upd_ne z]; exact h)
  · rw [upd_ne (nm a ha)]; exact g.fr a ha
  · by_cases z : a = p
    · subst z; rw [upd_same]; exact fun q => by cases q
    · rw [upd_ne z]; exact h
  · rw [upd_ne (ne_of_none h hp)]; exact h
/-! a locked dict -/
theorem Le.locked {a : Addr} {u : HO} {od : Obj} (ha : a ∈ ι) (hu : H a = some u) (nu : ∀ o v, u ≠ .frz o v) (l : Le ι F (upd H a (.frz od u)) ι' F' H') : Le ι F H ι' F' H' where
  pre := l.pre
  ex := l.ex
  dom := fun b h => l.dom b (by
    by_cases z : b = a
    · subst z; rw [upd_same]; exact fun q => by cases q
    · rw [upd_ne z]; exact h)
  keep := fun b o hb h => l.keep b o hb (by rw [upd_ne (fun z => hb (by rw [z]; exact ha))]; exact h)
  newF := fun b hb h n => l.newF b hb h (by rw [upd_ne (fun z => hb (by rw [z]; exact ha))]; exact n)
  newL := fun b h n => by
    have z := l.newL b h n
    rwa [upd_ne (fun z => n (by rw [z]; exact ha))] at z
  frz := fun b o v h => l.frz b o v (by rw [upd_ne (fun z => by rw [z, hu] at h; cases h; exact nu _ _ rfl)]; exact h)
theorem Le.unlocked {a : Addr} {u : HO} (ha : a ∈ ι) (hu : H a = some u) (nu : ∀ o v, u ≠ .frz o v) (l : Le ι F H ι' F' H') : Le ι F H ι' F' (upd H' a u) where
  pre := l.pre
  ex := l.ex
  dom := fun b h => by
    by_cases z : b = a
    · subst z; rw [upd_same]; exact fun q => by cases q
    · rw [upd_ne z]; exact l.dom b h
  keep := fun b o hb h => by rw [upd_ne (fun z => hb (by rw [z]; exact ha))]; exact l.keep b o hb h
  newF := l.newF
  newL := l.newL
  frz := fun b o v h => by rw [upd_ne (fun z => by rw [z, hu] at h; cases h; exact nu _ _ rfl)]; exact l.frz b o v h
end
end MP
namespace MP
open PySem L2 PyProof.Rows PySem.Spec
theorem lim_le : lim ≤ sizeLine := by decide
theorem lim_lt {n : Nat} (h : n ≤ lim) : n ≤ sizeLine := Nat.le_trans h lim_le
/-! ## what is wanted of a result -/
def ExcAt (G : Gb) (ι : List Addr) (F : Hp) (c : Nat) (w : W) (d : Option Addr) : Prop :=
  if G.hv c = true then ∃ dd x, d = some dd ∧ F dd = some (.xd [("value", x)]) ∧ WR G ι F w x else d = none
def Post {α β : Type} (G : Gb) (rel : List Addr → Hp → α → β → Prop) (E : XK) (ι : List Addr) (F H : Hp) (r : R α) (Q : β → Hp → Prop) : Prop :=
  match r with
  | .ok a S' => ∀ ι' F' H' v, Le ι F H ι' F' H' → GoodS G ι' F' S' H' → rel ι' F' a v → Q v H'
  | .exc c w S' => ∀ ι' F' H' d, Le ι F H ι' F' H' → GoodS G ι' F' S' H' → ExcAt G ι' F' c w d → E (.ref (G.cl c)) d H'
  | .bad => False
section
variable {α β γ δ : Type} {G : Gb} {rel : List Addr → Hp → α → β → Prop} {rel2 : List Addr → Hp → γ → δ → Prop} {E : XK} {ι ι1 : List Addr} {F H F1 H1 : Hp} {S : Sto}
theorem Post.le {r : R α} {Q : β → Hp → Prop} (l : Le ι F H ι1 F1 H1) (h : Post G rel E ι F H r Q) : Post G rel E ι1 F1 H1 r Q := by
  cases r with
  | ok a S' => exact fun ι' F' H' v l' g => h ι' F' H' v (l.trans l') g
  | exc c w S' => exact fun ι' F' H' d l' g => h ι' F' H' d (l.trans l') g
  | bad => exact h
theorem Post.bind {r : R α} {f : α → Sto → R γ} {Q : δ → Hp → Prop} {Q' : β → Hp → Prop} (h : Post G rel2 E ι F H (r.bind f) Q)
    (k : ∀ a S' ι' F' H' v, Le ι F H ι' F' H' → GoodS G ι' F' S' H' → rel ι' F' a v → r = .ok a S' → Post G rel2 E ι' F' H' (f a S') Q → Q' v H') : Post G rel E ι F H r Q' := by
  cases r with
  | ok a S' => exact fun ι' F' H' v l g q => k a S' ι' F' H' v l g q rfl (Post.le l h)
  | exc c w S' => exact h
  | bad => exact h
theorem Post.mono {r : R α} {Q Q' : β → Hp → Prop} (h : Post G rel E ι F H r Q)
    (k : ∀ a S' ι' F' H' v, Le ι F H ι' F' H' → GoodS G ι' F' S' H' → rel ι' F' a v → r = .ok a S' → Q v H' → Q' v H') : Post G rel E ι F H r Q' := by
  cases r with
  | ok a S' => exact fun ι' F' H' v l g q => k a S' ι' F' H' v l g q rfl (h ι' F' H' v l g q)
  | exc c w S' => exact h
  | bad => exact h
theorem Post.mono' {rel' : List Addr → Hp → α → β → Prop} {r : R α} {Q : β → Hp → Prop} (h : Post G rel E ι F H r Q) (k : ∀ a (S' : Sto) ι' F' H' v, Le ι F H ι' F' H' → GoodS G ι' F' S' H' → rel' ι' F' a v → rel ι' F' a v) : Post G rel' E ι F H r Q := by
  cases r with
  | ok a S' => exact fun ι' F' H' v l g q => h ι' F' H' v l g (k a S' ι' F' H' v l g q)
  | exc c w S' => exact h
  | bad => exact h
theorem Post.here {a : α} {Q : β → Hp → Prop} {v : β} (h : Post G rel E ι F H (.ok a S) Q) (g : GoodS G ι F S H) (q : rel ι F a v) : Q v H := h ι F H v (Le.refl ι F H) g q
end
abbrev RE (G : Gb) := fun (ι : List Addr) (F : Hp) (w : W) (v : V) => WR G ι F w v
abbrev REs (G : Gb) := fun (ι : List Addr) (F : Hp) (w : List W) (v : List V) => WRs G ι F w v
abbrev REq {α : Type} := fun (_ : List Addr) (_ : Hp) (a b : α) => a = b

/-! ## values and lists -/
section
variable {G : Gb} {E : XK} {ι : List Addr} {F H : Hp} {S : Sto}
theorem allD_eq : ∀ {ws : List W} {ds : List PyData}, allD ws = some ds → ws = ds.map .d
  | [], ds, e => by cases e; rfl
  | .d x :: r, ds, e => by
    unfold allD at e
    split at e
    · cases e
      rename_i l h
      rw [allD_eq h]; rfl
    · cases e
  | .ref _ :: _, _, e => by cases e
  | .ty _ :: _, _, e => by cases e
  | .exn _ _ :: _, _, e => by cases e
  | .cls _ :: _, _, e => by cases e
theorem wrs_at : ∀ {ds : List PyData} {xs : List V}, WRs G ι F (ds.map .d) xs → AtL G.K F xs ds
  | [], _, .nil => .nil
  | _ :: _, _, .cons h t => .cons h (wrs_at t)
theorem at_wrs : ∀ {xs : List V} {ds : List PyData}, AtL G.K F xs ds → WRs G ι F (ds.map .d) xs
  | _, [], .nil => .nil
  | _, _ :: _, .cons h t => .cons h (at_wrs t)
theorem seqL_ok (g : GoodS G ι F S H) {w : W} {v : V} {ws : List W} (r : WR G ι F w v) (e : seqL S w = some ws) : ∃ a xs, v = .ref a ∧ SqL G.K H a xs ∧ xs.length ≤ sizeLine ∧ WRs G ι F ws xs := by
  cases w with
  | d x =>
    cases x <;> first | (cases e; done) | skip
    cases e
    cases r with
    | lst h z t => exact ⟨_, _, rfl, g.ex.l h, z, at_wrs t⟩
  | ref n =>
    obtain ⟨a, h1, rfl⟩ := r
    unfold seqL at e
    simp only at e
    split at e
    · rename_i l hs
      cases e
      obtain ⟨f, xs, h2, h3, h4⟩ := g.obj n _ a hs h1
      exact ⟨a, xs, rfl, .inl (.inl h2), h3, h4⟩
    · cases e
  | ty t => cases e
  | exn c w => cases e
  | cls j => cases e
theorem seqT_ok (g : GoodS G ι F S H) {w : W} {v : V} {ws : List W} (r : WR G ι F w v) (e : seqT S w = some ws) : ∃ a xs, v = .ref a ∧ SqT G.K H a xs ∧ xs.length ≤ sizeLine ∧ WRs G ι F ws xs := by
  cases w with
  | d x =>
    cases x <;> first | (cases e; done) | skip
    cases e
    cases r with
    | tup h z t => exact ⟨_, _, rfl, .inl (.inl (g.ex _ _ h)), z, at_wrs t⟩
  | ref n =>
    obtain ⟨a, h1, rfl⟩ := r
    unfold seqT at e
    simp only at e
    split at e
    · rename_i l hs
      cases e
      obtain ⟨f, xs, h2, h3, h4⟩ := g.obj n _ a hs h1
      exact ⟨a, xs, rfl, .inl (.inl h2), h3, h4⟩
    · cases e
  | ty t => cases e
  | exn c w => cases e
  | cls j => cases e
theorem mkL_ok {m : Bool} {ws : List W} {xs : List V} {Q : VK} (g : GoodS G ι F S H) (r : WRs G ι F ws xs) (hz : xs.length ≤ sizeLine) (h : Post G (RE G) E ι F H (mkL m ws S) Q) (p : Addr) (hp : H p = none) : Q (.ref p) (upd H p (.lst xs)) := by
  have obj : Post G (RE G) E ι F H (.ok (.ref S.length) (S ++ [.lst ws])) Q → Q (.ref p) (upd H p (.lst xs)) := fun h => by
    have pre : ι <+: ι ++ [p] := List.prefix_append _ _
    have hF : F p = none := by
      cases q : F p with
      | none => rfl
      | some o => rw [g.ex p o q] at hp; cases hp
    obtain ⟨g', l⟩ := g.push (p := p) (u := .lst xs) (o := .lst ws) hp ⟨hF, xs, upd_same, hz, r.up pre fun _ _ h => h⟩
    exact h _ _ _ _ l g' ⟨p, by rw [← g.len]; simp, rfl⟩
  unfold mkL at h
  split at h
  · exact obj h
  · split at h
    · rename_i ds e
      obtain ⟨g', l⟩ := g.data (u := .lst xs) hp
      rw [allD_eq e] at r
      exact h _ _ _ _ l g' (At.lst (.inl (.inl upd_same)) hz (AtL.mono l.ex _ (wrs_at r)))
    · exact obj h
theorem mkT_ok {ws : List W} {xs : List V} {Q : VK} (g : GoodS G ι F S H) (r : WRs G ι F ws xs) (hz : xs.length ≤ sizeLine) (h : Post G (RE G) E ι F H (mkT ws S) Q) (p : Addr) (hp : H p = none) : Q (.ref p) (upd H p (.tup xs)) := by
  unfold mkT at h
  split at h
  · rename_i ds e
    obtain ⟨g', l⟩ := g.data (u := .tup xs) hp
    rw [allD_eq e] at r
    exact h _ _ _ _ l g' (At.tup upd_same hz (AtL.mono l.ex _ (wrs_at r)))
  · have pre : ι <+: ι ++ [p] := List.prefix_append _ _
    have hF : F p = none := by
      cases q : F p with
      | none => rfl
      | some o => rw [g.ex p o q] at hp; cases hp
    obtain ⟨g', l⟩ := g.push (p := p) (u := .tup xs) (o := .tup ws) hp ⟨hF, xs, upd_same, hz, r.up pre fun _ _ h => h⟩
    exact h _ _ _ _ l g' ⟨p, by rw [← g.len]; simp, rfl⟩
theorem tupD_ok {ds : List PyData} {xs : List V} {Q : VK} (g : GoodS G ι F S H) (r : AtL G.K F xs ds) (hz : xs.length ≤ sizeLine) (h : Post G (RE G) E ι F H (.ok (.d (.tuple ds)) S) Q) (p : Addr) (hp : H p = none) : Q (.ref p) (upd H p (.tup xs)) := by
  obtain ⟨g', l⟩ := g.data (u := .tup xs) hp
  exact h _ _ _ _ l g' (At.tup upd_same hz (AtL.mono l.ex _ r))
/-! reading a value as data -/
theorem keyD_of {x : PyData} {k : Key} (e : keyOf x = some k) : x = keyD k := by
  cases x <;> cases e <;> rfl
theorem rbL_ok {H2 : Hp} {f : W → Option PyData} (hf : ∀ w x v, f w = some x → WR G ι F w v → At G.K H2 v x) : ∀ {ws : List W} {ds : List PyData} {xs : List V}, rbL f ws = some ds → WRs G ι F ws xs → AtL G.K H2 xs ds
  | [], ds, _, e, .nil => by cases e; exact .nil
  | w :: r, ds, _, e, .cons h t => by
    unfold rbL at e
    split at e
    · rename_i x l e1 e2
      cases e
      exact .cons (hf _ _ _ e1 h) (rbL_ok hf e2 t)
    · cases e
theorem rbK_ok {H2 : Hp} {f : W → Option PyData} (hf : ∀ w x v, f w = some x → WR G ι F w v → At G.K H2 v x) : ∀ {ws : List (Key × W)} {ds : List (PyData × PyData)} {xs : List (Key × V)}, rbK f ws = some ds → KR G ι F ws xs → AtK G.K H2 xs ds
  | [], ds, _, e, .nil => by cases e; exact .nil
  | (k, w) :: r, ds, (k', v') :: xs, e, .cons h t => by
    unfold rbK at e
    split at e
    · rename_i x l e1 e2
      cases e
      obtain ⟨h1, h2⟩ := h
      simp only at h1 h2
      subst h1
      exact .cons (hf _ _ _ e1 h2) (rbK_ok hf e2 t)
    · cases e
theorem rbT_ok {H2 : Hp} {f : W → Option PyData} (hf : ∀ w x v, f w = some x → WR G ι F w v → At G.K H2 v x) : ∀ {ws : List (List Key × W)} {ds : List (PyData × PyData)} {xs : List (List Key × V)}, rbT f ws = some ds → KR G ι F ws xs → AtT G.K H2 xs ds
  | [], ds, _, e, .nil => by cases e; exact .nil
  | (k, w) :: r, ds, (k', v') :: xs, e, .cons h t => by
    unfold rbT at e
    split at e
    · rename_i x l e1 e2
      cases e
      obtain ⟨h1, h2⟩ := h
      simp only at h1 h2
      subst h1
      exact .cons (hf _ _ _ e1 h2) (rbT_ok hf e2 t)
    · cases e
/-- a value that is read through the store is that data in any heap that has the data and the objects from lo on -/
theorem rb_ok {H2 : Hp} {lo : Nat} (g : GoodS G ι F S H) (hx : Ex F H2) (ho : ∀ n a u, lo ≤ n → ι[n]? = some a → H a = some u → H2 a = some u) : ∀ (n : Nat) (w : W) (x : PyData) (v : V), rb lo n S w = some x → WR G ι F w v → At G.K H2 v x
  | n, .d y, x, v, e, r => by
    have e' : some y = some x := by
      cases n <;> exact e
    cases e'
    exact At.mono hx _ r
  | 0, .ref i, x, v, e, r => by cases e
  | n + 1, .ref i, x, v, e, r => by
    obtain ⟨a, h1, rfl⟩ := r
    unfold rb at e
    split at e
    · cases e
    · rename_i hlo
      have hlo : lo ≤ i := by omega
      split at e
      · rename_i ws hs
        obtain ⟨f, xs, h2, h3, h4⟩ := g.obj i _ a hs h1
        cases q : rbL (rb lo n S) ws with
        | none => rw [q] at e; cases e
        | some l =>
          rw [q] at e
          cases e
          exact .lst (.inl (.inl (ho i a _ hlo h1 h2))) h3 (rbL_ok (fun w x v e r => rb_ok g hx ho n w x v e r) q h4)
      · rename_i ws hs
        obtain ⟨f, xs, h2, h3, h4⟩ := g.obj i _ a hs h1
        cases q : rbL (rb lo n S) ws with
        | none => rw [q] at e; cases e
        | some l =>
          rw [q] at e
          cases e
          exact .tup (ho i a _ hlo h1 h2) h3 (rbL_ok (fun w x v e r => rb_ok g hx ho n w x v e r) q h4)
      · rename_i ws hs
        obtain ⟨f, xs, h2, h4⟩ := g.obj i _ a hs h1
        cases q : rbK (rb lo n S) ws with
        | none => rw [q] at e; cases e
        | some l =>
          rw [q] at e
          cases e
          exact .dk (ho i a _ hlo h1 h2) (rbK_ok (fun w x v e r => rb_ok g hx ho n w x v e r) q h4)
      · rename_i ws hs
        obtain ⟨f, xs, h2, h4⟩ := g.obj i _ a hs h1
        cases q : rbT (rb lo n S) ws with
        | none => rw [q] at e; cases e
        | some l =>
          rw [q] at e
          cases e
          exact .dt (ho i a _ hlo h1 h2) (rbT_ok (fun w x v e r => rb_ok g hx ho n w x v e r) q h4)
      · cases e
  | n, .ty t, x, v, e, r => by cases n <;> cases e
  | n, .exn c w, x, v, e, r => by cases n <;> cases e
  | n, .cls j, x, v, e, r => by cases n <;> cases e
theorem rb_at (g : GoodS G ι F S H) {n : Nat} {w : W} {x : PyData} {v : V} (e : rb 0 n S w = some x) (r : WR G ι F w v) : At G.K H v x := rb_ok g g.ex (fun _ _ _ _ _ h => h) n w x v e r
theorem rb_dp (g : GoodS G ι F S H) {n : Nat} {w : W} {x : PyData} {v : V} (e : rb 0 n S w = some x) (r : WR G ι F w v) (c : SeqAt.shaped x = true) : Dp G.K H v x := At.dp x (rb_at g e r) (SeqAt.canLay_of_shaped c)
/-! dicts -/
theorem kV_of {k : PyData} {q : Key} {v : V} (e : keyOf k = some q) (r : WR G ι F (.d k) v) : v = kV q := by
  cases k <;> cases e <;> cases r <;> rfl
theorem keyD_inj {a b : Key} (e : keyD a = keyD b) : a = b := by
  cases a <;> cases b <;> cases e <;> rfl
theorem keyOf_D {q : Key} : keyOf (keyD q) = some q := by cases q <;> rfl
theorem dkOf_ok : ∀ {ds : List (PyData × PyData)} {kvs : List (Key × W)} {kv : List (Key × V)}, dkOf ds = some kvs → AtK G.K F kv ds → KR G ι F kvs kv
  | [], kvs, _, e, .nil => by cases e; exact .nil
  | _ :: _, kvs, _, e, .cons h t => by
    unfold dkOf at e
    rw [keyOf_D] at e
    split at e
    · rename_i q l e1 e2
      cases e
      cases e1
      exact .cons ⟨rfl, h⟩ (dkOf_ok e2 t)
    · cases e
theorem keysL_ok : ∀ {ds : List PyData} {ks : List Key} {xs : List V}, keysOfL ds = some ks → AtL G.K F xs ds → xs = ks.map kV ∧ ds = ks.map keyD
  | [], ks, _, e, .nil => by cases e; exact ⟨rfl, rfl⟩
  | d :: ds, ks, _, e, .cons h t => by
    unfold keysOfL at e
    split at e
    · rename_i k l e1 e2
      cases e
      obtain ⟨rfl, rfl⟩ := keysL_ok e2 t
      cases kV_of (ι := []) e1 (show WR G [] F (.d d) _ from h)
      cases keyD_of e1
      exact ⟨rfl, rfl⟩
    · cases e
theorem keysOf_ok {d : PyData} {ks : List Key} {v : V} (e : keysOf d = some ks) (h : At G.K F v d) : (∃ b, v = .ref b ∧ F b = some (.tup (ks.map kV))) ∧ d = keyT ks := by
  unfold keysOf at e
  split at e
  · cases h with
    | tup q z t =>
      obtain ⟨rfl, rfl⟩ := keysL_ok e t
      exact ⟨⟨_, rfl, q⟩, rfl⟩
  · cases e
theorem keysOf_T {q : List Key} : keysOf (keyT q) = some q := by
  show keysOfL (q.map keyD) = some q
  induction q with
  | nil => rfl
  | cons k r ih => rw [List.map_cons]; unfold keysOfL; rw [keyOf_D, ih]
theorem dtOfL_ok : ∀ {ds : List (PyData × PyData)} {kvs : List (List Key × W)} {kv : List (List Key × V)}, dtOfL ds = some kvs → AtT G.K F kv ds → KR G ι F kvs kv
  | [], kvs, _, e, .nil => by cases e; exact .nil
  | _ :: _, kvs, _, e, .cons h t => by
    unfold dtOfL at e
    rw [keysOf_T] at e
    split at e
    · rename_i q l e1 e2
      cases e
      cases e1
      exact .cons ⟨rfl, h⟩ (dtOfL_ok e2 t)
    · cases e
theorem noneK {kv : List (Key × V)} {x : PyData} {ds : List (PyData × PyData)} (h : AtK G.K F kv ((.none, x) :: ds)) : False := by
  generalize e : (PyData.none, x) :: ds = l at h
  cases h with
  | nil => cases e
  | @cons k v vs d ds' h t => cases k <;> cases e
/-- a dict that stands as data -/
theorem dtOf_ok {ds : List (PyData × PyData)} {kvs : List (List Key × W)} {v : V} (e : dtOf ds = some kvs) (h : At G.K F v (.dict ds)) : ∃ a kv, v = .ref a ∧ F a = some (.dT kv) ∧ KR G ι F kvs kv := by
  unfold dtOf at e
  split at e
  · cases h with
    | dk hr ht => exact (noneK ht).elim
    | dt hr ht => exact ⟨_, _, rfl, hr, dtOfL_ok e ht⟩
  · cases e
theorem dkOf_at {ds : List (PyData × PyData)} {kvs : List (Key × W)} {v : V} (e : dkOf ds = some kvs) (h : At G.K F v (.dict ds)) : ∃ a kv, v = .ref a ∧ F a = some (.dK kv) ∧ KR G ι F kvs kv := by
  cases h with
  | dk hr ht => exact ⟨_, _, rfl, hr, dkOf_ok e ht⟩
  | dt hr ht =>
    unfold dkOf at e
    cases e
theorem look_ok {κ : Type} [DecidableEq κ] : ∀ {kvs : List (κ × W)} {kv : List (κ × V)} (q : κ), KR G ι F kvs kv → (lookW kvs q = none ∧ valV kv q = none) ∨ ∃ w v, lookW kvs q = some w ∧ valV kv q = some v ∧ WR G ι F w v
  | [], _, q, .nil => .inl ⟨rfl, rfl⟩
  | (k, w) :: r, _, q, .cons (b := kv0) h t => by
    obtain ⟨k', v⟩ := kv0
    obtain ⟨h1, h2⟩ := h
    simp only at h1 h2
    subst h1
    by_cases e : k = q
    · refine .inr ⟨w, v, ?_, ?_, h2⟩
      · simp [lookW, e]
      · simp [valV, e]
    · have := look_ok q t
      simpa [lookW, valV, e] using this
end
end MP
namespace MP
open PySem L2 PyProof.Rows PySem.Spec
section
variable {G : Gb} {E : XK} {ι : List Addr} {F H : Hp} {S : Sto} {x y : W} {v u : V} {Q : VK} {m : Bool}
theorem inv_int {i : Int} (r : WR G ι F (.d (.int i)) v) : v = .int i := by cases r; rfl
theorem inv_str {i : Str} (r : WR G ι F (.d (.str i)) v) : v = .str i := by cases r; rfl
theorem inv_bl {i : Bool} (r : WR G ι F (.d (.bool i)) v) : v = .bl i := by cases r; rfl
theorem inv_non (r : WR G ι F (.d .none) v) : v = .non := by cases r; rfl
theorem atL_app (ι : List Addr) {xs ys : List V} {a b : List PyData} (h1 : AtL G.K F xs a) (h2 : AtL G.K F ys b) : AtL G.K F (xs ++ ys) (a ++ b) := by
  have z := papp (at_wrs (G := G) (ι := ι) h1) (at_wrs h2)
  rw [← List.map_append] at z
  exact wrs_at z
theorem add_ok (g : GoodS G ι F S H) (r1 : WR G ι F x v) (r2 : WR G ι F y u) (h : Post G (RE G) E ι F H (addW m x y S) Q) : MP.r2 G.K .add v u H Q := by
  unfold addW at h
  split at h
  · cases inv_int r1; cases inv_int r2
    exact .inl ⟨_, _, rfl, rfl, Post.here h g (.int _)⟩
  · cases inv_str r1; cases inv_str r2
    split at h
    · exact .inr (.inl ⟨_, _, rfl, rfl, lim_lt (by assumption), Post.here h g (.str _)⟩)
    · exact h.elim
  · rename_i ds1 ds2
    split at h
    · rename_i hz
      have c1 := r1
      have c2 := r2
      cases c1 with
      | @tup a l1 _ q1 z1 t1 =>
      cases c2 with
      | @tup b l2 _ q2 z2 t2 =>
      have hz' : l1.length + l2.length ≤ sizeLine := by rw [t1.length, t2.length]; exact lim_lt hz
      refine .inr (.inr (.inr ⟨a, b, l1, l2, rfl, rfl, .inl (.inl (g.ex _ _ q1)), .inl (.inl (g.ex _ _ q2)), hz', fun e => ?_, fun e e' => ?_, fun e e' => ?_⟩))
      · subst e
        cases ds1 with
        | nil => exact Post.here h g r2
        | cons a r => cases t1
      · subst e'
        cases ds2 with
        | nil =>
          rw [List.append_nil] at h
          exact Post.here h g r1
        | cons a r => cases t2
      · exact tupD_ok g (atL_app ι t1 t2) (by rw [List.length_append]; exact hz') h
    · exact h.elim
  · split at h
    · rename_i xs ys e1 e2
      obtain ⟨a, l1, rfl, q1, z1, p1⟩ := seqL_ok g r1 e1
      obtain ⟨b, l2, rfl, q2, z2, p2⟩ := seqL_ok g r2 e2
      split at h
      · rename_i hz
        have hz' : l1.length + l2.length ≤ sizeLine := by rw [← p1.length, ← p2.length]; exact lim_lt hz
        exact .inr (.inr (.inl ⟨a, b, l1, l2, rfl, rfl, q1, q2, hz', mkL_ok g (papp p1 p2) (by rw [List.length_append]; exact hz') h⟩))
      · exact h.elim
    · exact h.elim
theorem mulOk_ok {z : Str} {n : Int} (h : mulOk z n = true) : MulOk z n := by
  unfold mulOk at h
  simp only [Bool.and_eq_true, decide_eq_true_eq] at h
  obtain ⟨⟨h1, h2⟩, h3⟩ := h
  obtain ⟨k, rfl⟩ := Int.eq_ofNat_of_zero_le h1
  have hk : k ≤ 1000 := by omega
  have hm : z.length * k ≤ 1000000 := by
    calc z.length * k ≤ 1000 * 1000 := Nat.mul_le_mul h3 hk
      _ = 1000000 := by decide
  refine ⟨?_, fun h4 h5 => ?_, fun h4 h5 => ?_⟩
  · simp only [Bool.or_eq_false_iff, decide_eq_false_iff_not]
    omega
  · rw [Int.not_lt] at *
    have : (1000 : Int) ≤ (2 ^ 63 - 1) / (k : Int) := by
      rw [Int.le_ediv_iff_mul_le (by omega)]
      omega
    omega
  · have : (k : Int).toNat = k := by omega
    rw [this]
    unfold Builtin.Str.tooLong
    simp only [decide_eq_false_iff_not, Nat.not_lt]
    have : (1000000 : Nat) ≤ sizeLine := by decide
    first | omega | (simp; omega)
theorem mul_ok (g : GoodS G ι F S H) (r1 : WR G ι F x v) (r2 : WR G ι F y u) (h : Post G (RE G) E ι F H (mulW m x y S) Q) : MP.r2 G.K .mul v u H Q := by
  unfold mulW at h
  split at h
  · cases inv_int r1; cases inv_int r2
    split at h
    · rename_i i j hc
      exact .inl ⟨i, j, rfl, rfl, hc, Post.here h g (.int _)⟩
    · exact h.elim
  · cases inv_str r1; cases inv_int r2
    split at h
    · rename_i hc
      exact .inr (.inl ⟨_, _, rfl, rfl, mulOk_ok hc, Post.here h g (.str _)⟩)
    · exact h.elim
  · rename_i _ _ k _ _
    cases inv_int r2
    split at h
    · rename_i xs e
      obtain ⟨a, l, rfl, q, z, p⟩ := seqL_ok g r1 e
      split at h
      · rename_i hc
        have hz : l.length * k.toNat ≤ sizeLine := by rw [← p.length]; exact lim_lt hc.2.2
        refine .inr (.inr ⟨a, _, l, rfl, rfl, q, ?_, ?_, hz, mkL_ok g (prep _ p) (by rw [PyProof.Rows.lm_len_rep_flat, Nat.mul_comm]; exact hz) h⟩)
        · have := hc.1; omega
        · have := hc.2.1; omega
      · exact h.elim
    · exact h.elim
  · exact h.elim
theorem int2_ok {f : Int → Int → R W} (h : Post G (RE G) E ι F H (int2 f x y) Q) (r1 : WR G ι F x v) (r2 : WR G ι F y u) : ∃ i j, v = .int i ∧ u = .int j ∧ Post G (RE G) E ι F H (f i j) Q := by
  unfold int2 at h
  split at h
  · cases inv_int r1; cases inv_int r2
    exact ⟨_, _, rfl, rfl, h⟩
  · exact h.elim
theorem dgetK_ok {o : Option W} {a : Addr} {kvs : List (Key × W)} {kv : List (Key × V)} {k : PyData} (hr : Rd H a (.dK kv)) (r : KR G ι F kvs kv) (r2 : WR G ι F (.d k) u) (h : dgetK kvs k = some o) : (o = none ∧ DGet H a u none) ∨ ∃ w z, o = some w ∧ DGet H a u (some z) ∧ WR G ι F w z := by
  unfold dgetK at h
  split at h
  · rename_i q hk
    cases h
    cases kV_of hk r2
    rcases look_ok q r with ⟨e1, e2⟩ | ⟨w, z, e1, e2, e3⟩
    · exact .inl ⟨e1, .inl ⟨kv, q, hr, rfl, e2.symm⟩⟩
    · exact .inr ⟨w, z, e1, .inl ⟨kv, q, hr, rfl, e2.symm⟩, e3⟩
  · cases h
theorem dgetT_ok (g : GoodS G ι F S H) {o : Option W} {a : Addr} {kvs : List (List Key × W)} {kv : List (List Key × V)} {k : PyData} (hr : Rd H a (.dT kv)) (r : KR G ι F kvs kv) (r2 : WR G ι F (.d k) u) (h : dgetT kvs k = some o) : (o = none ∧ DGet H a u none) ∨ ∃ w z, o = some w ∧ DGet H a u (some z) ∧ WR G ι F w z := by
  unfold dgetT at h
  split at h
  · rename_i q hk
    cases h
    obtain ⟨⟨b, rfl, hb⟩, _⟩ := keysOf_ok hk r2
    rcases look_ok q r with ⟨e1, e2⟩ | ⟨w, z, e1, e2, e3⟩
    · exact .inl ⟨e1, .inr ⟨kv, q, b, hr, rfl, g.ex _ _ hb, e2.symm⟩⟩
    · exact .inr ⟨w, z, e1, .inr ⟨kv, q, b, hr, rfl, g.ex _ _ hb, e2.symm⟩, e3⟩
  · cases h
theorem dget_ok (g : GoodS G ι F S H) {o : Option W} (r1 : WR G ι F x v) (r2 : WR G ι F y u) (h : dget S x y = some o) : ∃ a, v = .ref a ∧ ((o = none ∧ DGet H a u none) ∨ ∃ w z, o = some w ∧ DGet H a u (some z) ∧ WR G ι F w z) := by
  unfold dget at h
  split at h
  · rename_i n k
    obtain ⟨a, h1, rfl⟩ := r1
    split at h
    · rename_i kvs hs
      obtain ⟨f, kv, h2, h3⟩ := g.obj n _ a hs h1
      exact ⟨a, rfl, dgetK_ok (.inl h2) h3 r2 h⟩
    · rename_i kvs hs
      obtain ⟨f, od, kv, h2, h3⟩ := g.obj n _ a hs h1
      exact ⟨a, rfl, dgetK_ok (.inr ⟨od, h2⟩) h3 r2 h⟩
    · rename_i kvs hs
      obtain ⟨f, kv, h2, h3⟩ := g.obj n _ a hs h1
      exact ⟨a, rfl, dgetT_ok g (.inl h2) h3 r2 h⟩
    · cases h
  · rename_i ds k
    split at h
    · rename_i kvs hs
      obtain ⟨a, kv, rfl, hr, ht⟩ := dtOf_ok (ι := ι) hs r1
      exact ⟨a, rfl, dgetT_ok g (.inl (g.ex _ _ hr)) ht r2 h⟩
    · split at h
      · rename_i kvs hs
        obtain ⟨a, kv, rfl, hr, ht⟩ := dkOf_at (ι := ι) hs r1
        exact ⟨a, rfl, dgetK_ok (.inl (g.ex _ _ hr)) ht r2 h⟩
      · cases h
  · cases h
theorem hereB {b : Bool} (h : Post G (RE G) E ι F H (.ok (.d (.bool b)) S) Q) (g : GoodS G ι F S H) : Q (.bl b) H := Post.here h g (show WR G ι F (.d (.bool b)) (.bl b) from At.bl b)
theorem in_ok {neg : Bool} (g : GoodS G ι F S H) (r1 : WR G ι F x v) (r2 : WR G ι F y u) (h : Post G (RE G) E ι F H (inW neg x y S) Q) : MP.r2 G.K (if neg then .nin else .inn) v u H Q := by
  unfold inW at h
  split at h
  · split at h
    · rename_i o e
      obtain ⟨a, rfl, q⟩ := dget_ok g r2 r1 e
      have key : ∃ o', DGet H a v o' ∧ o'.isSome = o.isSome := by
        rcases q with ⟨e1, e2⟩ | ⟨w, z, e1, e2, e3⟩
        · exact ⟨none, e2, by subst e1; rfl⟩
        · exact ⟨some z, e2, by subst e1; rfl⟩
      obtain ⟨o', d, e'⟩ := key
      have z := hereB h g
      rw [← e'] at z
      cases neg
      · exact .inr (.inl ⟨a, o', rfl, d, z⟩)
      · exact .inr (.inl ⟨a, o', rfl, d, z⟩)
    · exact h.elim
  · split at h
    · rename_i a ds e1 e2
      split at h
      · rename_i hs
        rw [Bool.and_eq_true] at hs
        have z := hereB h g
        cases neg
        · exact .inl ⟨a, ds, rb_dp g e1 r1 hs.1, rb_dp g e2 r2 hs.2, hs.1, hs.2, z⟩
        · exact .inl ⟨a, ds, rb_dp g e1 r1 hs.1, rb_dp g e2 r2 hs.2, hs.1, hs.2, z⟩
      · exact h.elim
    · rename_i c z e1 e2
      have a1 := rb_at g e1 r1
      have a2 := rb_at g e2 r2
      cases a1; cases a2
      split at h
      · rename_i hc
        obtain ⟨⟨cs⟩⟩ := c
        simp only [List.size_toArray] at hc
        match cs, hc with
        | [c], _ =>
          have q := hereB h g
          cases neg
          · exact .inr (.inr (.inl ⟨c, z, rfl, rfl, q⟩))
          · exact .inr (.inr (.inl ⟨c, z, rfl, rfl, q⟩))
      · exact h.elim
    · exact h.elim
theorem eq_ok {neg : Bool} (g : GoodS G ι F S H) (r1 : WR G ι F x v) (r2 : WR G ι F y u) (h : Post G (RE G) E ι F H (eqW neg x y S) Q) : MP.r2 G.K (if neg then .ne else .eq) v u H Q := by
  unfold eqW at h
  split at h
  · rename_i a b e1 e2
    split at h
    · rename_i hs
      rw [Bool.and_eq_true] at hs
      have z := hereB h g
      cases neg
      · exact ⟨a, b, rb_dp g e1 r1 hs.1, rb_dp g e2 r2 hs.2, hs.1, hs.2, z⟩
      · exact ⟨a, b, rb_dp g e1 r1 hs.1, rb_dp g e2 r2 hs.2, hs.1, hs.2, z⟩
    · exact h.elim
  · exact h.elim
theorem ne_non (r : WR G ι F x v) (h : x = .d .none → False) : v ≠ .non := by
  intro e
  subst e
  cases x with
  | d y => cases r; exact h rfl
  | ref n => obtain ⟨a, _, z⟩ := r; cases z
  | ty t => cases r
  | exn c w => obtain ⟨a, z, _⟩ := r; cases z
  | cls j => cases r
theorem is_ok {neg : Bool} (g : GoodS G ι F S H) (r1 : WR G ι F x v) (r2 : WR G ι F y u) (h : Post G (RE G) E ι F H (isW neg x y S) Q) : MP.r2 G.K (if neg then .isn else .is_) v u H Q := by
  unfold isW at h
  split at h
  · cases inv_non r1; cases inv_non r2
    have q := hereB h g
    cases neg
    · exact .inl ⟨rfl, by simpa using q⟩
    · exact .inl ⟨rfl, by simpa using q⟩
  · rename_i hn
    cases inv_non r2
    have nn := ne_non r1 hn
    have q := hereB h g
    cases neg
    · exact .inl ⟨rfl, by simpa [nn] using q⟩
    · exact .inl ⟨rfl, by simpa [nn] using q⟩
  · cases inv_bl r1; cases inv_bl r2
    have q := hereB h g
    cases neg
    · exact .inr ⟨_, _, rfl, rfl, q⟩
    · exact .inr ⟨_, _, rfl, rfl, q⟩
  · exact h.elim
theorem op2_ok {o : Op2} (g : GoodS G ι F S H) (r1 : WR G ι F x v) (r2 : WR G ι F y u) (h : Post G (RE G) E ι F H (op2 o m x y S) Q) : MP.r2 G.K o v u H Q := by
  cases o
  case add => exact add_ok g r1 r2 h
  case mul => exact mul_ok g r1 r2 h
  case eq => exact eq_ok (neg := false) g r1 r2 h
  case ne => exact eq_ok (neg := true) g r1 r2 h
  case inn => exact in_ok (neg := false) g r1 r2 h
  case nin => exact in_ok (neg := true) g r1 r2 h
  case is_ => exact is_ok (neg := false) g r1 r2 h
  case isn => exact is_ok (neg := true) g r1 r2 h
  case fdiv =>
    obtain ⟨i, j, rfl, rfl, h⟩ := int2_ok h r1 r2
    split at h
    · rename_i hc
      exact ⟨i, j, rfl, rfl, hc, Post.here h g (.int _)⟩
    · exact h.elim
  case mod =>
    obtain ⟨i, j, rfl, rfl, h⟩ := int2_ok h r1 r2
    split at h
    · rename_i hc
      exact ⟨i, j, rfl, rfl, hc, Post.here h g (.int _)⟩
    · exact h.elim
  case pow =>
    obtain ⟨i, j, rfl, rfl, h⟩ := int2_ok h r1 r2
    split at h
    · rename_i hc
      exact ⟨i, j, rfl, rfl, hc, Post.here h g (.int _)⟩
    · exact h.elim
  all_goals
    obtain ⟨i, j, rfl, rfl, h⟩ := int2_ok h r1 r2
    first
      | exact ⟨i, j, rfl, rfl, Post.here h g (.int _)⟩
      | exact ⟨i, j, rfl, rfl, hereB h g⟩
end
end MP
namespace MP
open PySem L2 PyProof.Rows PySem.Spec
def tyAll : List String := ["NoneType", "bool", "int", "str", "list", "tuple", "dict"]
theorem kit_tab (K : PySem.W.Frag) : ∀ a ∈ tyAll, ∀ b ∈ tyNames, PySem.W.kitOne K (.type a) (.type b) = some (isiB a b) := by
  have h : ∀ a ∈ tyAll, ∀ b ∈ tyNames, ((if ((Value.type a : Value) == .type b) = true then some true else (if PySem.W.kitMeta b = true then (fastBuiltinMro a).map (·.contains (.type b)) else none)) == some (isiB a b)) = true := by
    decide +kernel
  intro a ha b hb
  exact eq_of_beq (h a ha b hb)
section
variable {G : Gb} {E : XK} {ι : List Addr} {F H : Hp} {S : Sto} {x y : W} {v u : V} {Q : VK} {m : Bool}
theorem hereI {b : Int} (h : Post G (RE G) E ι F H (.ok (.d (.int b)) S) Q) (g : GoodS G ι F S H) : Q (.int b) H := Post.here h g (show WR G ι F (.d (.int b)) (.int b) from At.int b)
theorem pnth {ws : List W} {xs : List V} (r : WRs G ι F ws xs) {i : Int} {w : W} (e : atI ws i = some w) : ∃ v, atI xs i = some v ∧ WR G ι F w v := by
  unfold atI at e ⊢
  rw [r.length] at e
  cases q : ixN xs.length i with
  | none => rw [q] at e; cases e
  | some j =>
    rw [q] at e
    obtain ⟨v, h1, h2⟩ := pget r e
    exact ⟨v, h1, h2⟩
theorem ix_ok (g : GoodS G ι F S H) (r1 : WR G ι F x v) (r2 : WR G ι F y u) (h : Post G (RE G) E ι F H (ixW x y S) Q) : rIxA G.K v u H Q := by
  unfold ixW at h
  split at h
  · split at h
    · rename_i w e
      obtain ⟨a, rfl, q⟩ := dget_ok g r1 r2 e
      rcases q with ⟨e1, e2⟩ | ⟨w', z, e1, e2, e3⟩
      · cases e1
      · cases e1
        exact .inr ⟨a, z, rfl, e2, Post.here h g e3⟩
    · exact h.elim
  · split at h
    · rename_i i
      cases inv_int r2
      split at h
      · cases inv_str r1
        split at h
        · rename_i hz
          split at h
          · rename_i c e
            exact .inl (.inr (.inr ⟨_, i, c, rfl, rfl, lim_lt hz, e, Post.here h g (.str _)⟩))
          · exact h.elim
        · exact h.elim
      · split at h
        · rename_i ws e
          obtain ⟨a, l, rfl, q, z, p⟩ := seqL_ok g r1 e
          split at h
          · rename_i w e'
            obtain ⟨v, e1, e2⟩ := pnth p e'
            exact .inl (.inl ⟨a, l, i, v, rfl, rfl, q, e1, Post.here h g e2⟩)
          · exact h.elim
        · split at h
          · rename_i ws e
            obtain ⟨a, l, rfl, q, z, p⟩ := seqT_ok g r1 e
            split at h
            · rename_i w e'
              obtain ⟨v, e1, e2⟩ := pnth p e'
              exact .inl (.inr (.inl ⟨a, l, i, v, rfl, rfl, q, e1, Post.here h g e2⟩))
            · exact h.elim
          · exact h.elim
    · exact h.elim
theorem pcut {ws : List W} {xs : List V} (r : WRs G ι F ws xs) (lo hi : Option Int) : WRs G ι F (cut ws lo hi) (cutV xs lo hi) := by
  unfold cut cutV
  rw [r.length]
  exact ptake _ (pdrop _ r)
theorem sl_ok {lo hi : Option Int} (g : GoodS G ι F S H) (r1 : WR G ι F x v) (h : Post G (RE G) E ι F H (slW x lo hi S) Q) : rSl G.K v lo hi H Q := by
  unfold slW at h
  split at h
  · cases inv_str r1
    split at h
    · rename_i z hz
      exact .inr (.inr ⟨z, rfl, lim_lt hz, Post.here h g (.str _)⟩)
    · exact h.elim
  · split at h
    · rename_i ws e
      obtain ⟨a, l, rfl, q, z, p⟩ := seqL_ok g r1 e
      exact .inl ⟨a, l, rfl, q, mkL_ok g (pcut p lo hi) (Nat.le_trans (cutV_length ..) z) h⟩
    · split at h
      · rename_i ds _ _
        have r1' := r1
        cases r1' with
        | @tup a l _ q z t =>
        have tc : AtL G.K F (cutV l lo hi) (cut ds lo hi) := by
          have w := at_wrs (G := G) (ι := ι) t
          have z := pcut w lo hi
          have e : cut (ds.map W.d) lo hi = (cut ds lo hi).map W.d := by
            unfold cut
            rw [List.map_take, List.map_drop, List.length_map]
          rw [e] at z
          exact wrs_at z
        refine .inr (.inl ⟨a, l, rfl, .inl (.inl (g.ex _ _ q)), fun e => ?_, fun e p hp => ?_⟩)
        · have e' : cut ds lo hi = ds := by
            unfold cut
            rw [← t.length, e.1, e.2]
            simp [t.length]
          rw [e'] at h
          exact Post.here h g r1
        · exact tupD_ok g tc (Nat.le_trans (cutV_length ..) z) h p hp
      · exact h.elim
theorem tru_ok {k : Bool} (g : GoodS G ι F S H) (r : WR G ι F x v) (h : tru S x = some k) : TruV G.K v H k := by
  unfold tru at h
  split at h
  · cases inv_non r; cases h; exact rfl
  · cases inv_bl r; cases h; exact rfl
  · cases inv_int r; cases h; exact rfl
  · cases inv_str r
    split at h
    · rename_i hz
      cases h; exact ⟨lim_lt hz, rfl⟩
    · cases h
  · cases h
    cases r with
    | @lst a l ds q z t =>
    refine .inl ⟨l, g.ex.l q, ?_⟩
    cases t <;> rfl
  · cases h
    cases r with
    | @tup a l ds q z t =>
    refine .inr (.inl ⟨l, .inl (.inl (g.ex _ _ q)), ?_⟩)
    cases t <;> rfl
  · rename_i n
    obtain ⟨a, h1, rfl⟩ := r
    split at h
    · rename_i ws hs
      cases h
      obtain ⟨f, xs, h2, h3, h4⟩ := g.obj n _ a hs h1
      refine .inl ⟨xs, .inl (.inl h2), ?_⟩
      cases h4 <;> rfl
    · rename_i ws hs
      cases h
      obtain ⟨f, xs, h2, h3, h4⟩ := g.obj n _ a hs h1
      refine .inr (.inl ⟨xs, .inl (.inl h2), ?_⟩)
      cases h4 <;> rfl
    · rename_i ws hs
      cases h
      obtain ⟨f, xs, h2, h4⟩ := g.obj n _ a hs h1
      refine .inr (.inr ⟨xs, h2, ?_⟩)
      cases h4 <;> rfl
    · cases h
  · cases h
theorem tyL {a : Addr} {xs : List V} (h : SqL G.K H a xs) : TyX G.K H (.ref a) (.type "list") := by
  rcases h with (h | ⟨o, h⟩) | ⟨o, its, n, h, c, _⟩
  · exact .base (.lst h)
  · exact .base (.frz h)
  · exact .kList h c
theorem tyT {a : Addr} {xs : List V} (h : SqT G.K H a xs) : TyX G.K H (.ref a) (.type "tuple") := by
  rcases h with (h | ⟨o, h⟩) | ⟨o, its, n, h, c, _⟩
  · exact .base (.tup h)
  · exact .fTuple h
  · exact .kTuple h c
theorem tyK {a : Addr} {xs : List (Key × V)} (h : Rd H a (.dK xs)) : TyX G.K H (.ref a) (.type "dict") := by
  rcases h with h | ⟨o, h⟩
  · exact .base (.dK h)
  · exact .fDict h
theorem typ_ok {t : String} (g : GoodS G ι F S H) (r : WR G ι F x v) (h : typOf S x = some t) : TyX G.K H v (.type t) ∧ t ∈ tyAll := by
  unfold typOf at h
  split at h
  · cases inv_non r; cases h; exact ⟨.base .non, by decide⟩
  · cases inv_bl r; cases h; exact ⟨.base (.bl _), by decide⟩
  · cases inv_int r; cases h; exact ⟨.base (.int _), by decide⟩
  · cases inv_str r; cases h; exact ⟨.base (.str _), by decide⟩
  · cases h
    cases r with
    | @lst a l ds q z t => exact ⟨tyL (g.ex.l q), by decide⟩
  · cases h
    cases r with
    | @tup a l ds q z t => exact ⟨tyT (.inl (.inl (g.ex _ _ q))), by decide⟩
  · split at h
    · rename_i kvs hk
      cases h
      obtain ⟨a, kv, rfl, hr, _⟩ := dkOf_at (ι := ι) hk r
      exact ⟨tyK (.inl (g.ex _ _ hr)), by decide⟩
    · cases h
  · rename_i n
    obtain ⟨a, h1, rfl⟩ := r
    split at h
    · rename_i ws hs
      cases h
      obtain ⟨f, xs, h2, h3, h4⟩ := g.obj n _ a hs h1
      exact ⟨.base (.lst h2), by decide⟩
    · rename_i ws hs
      cases h
      obtain ⟨f, xs, h2, h3, h4⟩ := g.obj n _ a hs h1
      exact ⟨.base (.tup h2), by decide⟩
    · rename_i ws hs
      cases h
      obtain ⟨f, xs, h2, h4⟩ := g.obj n _ a hs h1
      exact ⟨.base (.dK h2), by decide⟩
    · cases h
  · cases h
/-! built-ins -/
theorem wrs1 {w : W} {xs : List V} (r : WRs G ι F [w] xs) : ∃ v, xs = [v] ∧ WR G ι F w v := by
  cases r with
  | cons r t => cases t; exact ⟨_, rfl, r⟩
theorem wrs2 {w w' : W} {xs : List V} (r : WRs G ι F [w, w'] xs) : ∃ v v', xs = [v, v'] ∧ WR G ι F w v ∧ WR G ι F w' v' := by
  cases r with
  | cons r t =>
    obtain ⟨v', rfl, r'⟩ := wrs1 t
    exact ⟨_, _, rfl, r, r'⟩
theorem wrs0 {xs : List V} (r : WRs G ι F [] xs) : xs = [] := by cases r; rfl
theorem len_ok {n : Nat} (g : GoodS G ι F S H) (r : WR G ι F x v) (h : lenW S x = some n) : LenV G.K v H n ∨ ∃ p kvs, v = .ref p ∧ Rd H p (.dK kvs) ∧ n = kvs.length := by
  unfold lenW at h
  split at h
  · cases inv_str r
    split at h
    · rename_i hz
      cases h; exact .inl ⟨lim_lt hz, rfl⟩
    · cases h
  · cases h
    cases r with
    | @lst a l ds q z t => exact .inl (.inl ⟨l, g.ex.l q, t.length.symm⟩)
  · cases h
    cases r with
    | @tup a l ds q z t => exact .inl (.inr ⟨l, .inl (.inl (g.ex _ _ q)), t.length.symm⟩)
  · rename_i ds
    split at h
    · rename_i kvs hk
      cases h
      obtain ⟨a, kv, rfl, hr, ht⟩ := dkOf_at (ι := ι) hk r
      refine .inr ⟨a, kv, rfl, .inl (g.ex _ _ hr), ?_⟩
      rw [← ht.length]
      clear r hr ht
      have len : ∀ {ds : List (PyData × PyData)} {kvs : List (Key × W)}, dkOf ds = some kvs → ds.length = kvs.length := by
        intro ds
        induction ds with
        | nil => intro kvs e; cases e; rfl
        | cons p r ih =>
          intro kvs e
          unfold dkOf at e
          split at e
          · rename_i q l e1 e2
            cases e
            rw [List.length_cons, List.length_cons, ih e2]
          · cases e
      exact len hk
    · cases h
  · rename_i n
    obtain ⟨a, h1, rfl⟩ := r
    split at h
    · rename_i ws hs
      cases h
      obtain ⟨f, xs, h2, h3, h4⟩ := g.obj n _ a hs h1
      exact .inl (.inl ⟨xs, .inl (.inl h2), h4.length⟩)
    · rename_i ws hs
      cases h
      obtain ⟨f, xs, h2, h3, h4⟩ := g.obj n _ a hs h1
      exact .inl (.inr ⟨xs, .inl (.inl h2), h4.length⟩)
    · rename_i ws hs
      cases h
      obtain ⟨f, xs, h2, h4⟩ := g.obj n _ a hs h1
      exact .inr ⟨a, xs, rfl, .inl h2, h4.length⟩
    · cases h
  · cases h
theorem ints_ok : ∀ {ws : List W} {xs : List V} {ns : List Int}, intsW ws = some ns → WRs G ι F ws xs → xs = ns.map .int
  | [], _, ns, e, .nil => by cases e; rfl
  | w :: r, _, ns, e, .cons h t => by
    unfold intsW at e
    split at e
    · rename_i h2; cases h2
    · rename_i i r' h2
      cases h2
      split at e
      · rename_i l e2
        cases e
        cases inv_int h
        rw [ints_ok e2 t]; rfl
      · cases e
    · cases e
/-- what the written part says of the errors' classes -/
structure GdOk (G : Gb) (gd : Gd) : Prop where
  hv : ∀ c, gd.hv c = G.hv c
  ex : ∀ c, gd.ex c = true → ExcC G.K (G.cl c) ∧ (G.hv c = true → XfC G.K (G.cl c) ∧ PySem.W.findIn G.K (.ref (G.cl c)) "value" = some none) ∧ PySem.W.mroIn G.K (G.cl c) (.type "object") = some true ∧
    PySem.W.findIn G.K (.ref (G.cl c)) "__eq__" = some (some (.builtin "object.__eq__"))
  sub : ∀ c t b, gd.sub c t = some b → gd.ex c = true ∧ PySem.W.kitOne G.K (.ref (G.cl c)) (match t with | .own j => .ref (G.cl j) | .ty s => .type s) = some b
  dat : ∀ a ∈ tyAll, ∀ j, gd.ex j = true → PySem.W.kitOne G.K (.type a) (.ref (G.cl j)) = some false
  exm : ∀ c j b, gd.sub c (.own j) = some b → PySem.W.exmOne G.K (.ref (G.cl c)) (.ref (G.cl j)) = some b
  kd : ∀ i l, gd.kd i = some l → ∀ z : Str, (l.lookup z = none → PySem.W.nsIn G.K (G.kd i) z = some none) ∧ ∀ p, l.lookup z = some p → ∃ u v, PySem.W.nsIn G.K (G.kd i) z = some (some u) ∧ RelV v u ∧ ∀ F, At G.K F v p
theorem exn_at (g : GoodS G ι F S H) {c : Nat} {w : W} {v : V} (r : WR G ι F (.exn c w) v) : ∃ a d, v = .ref a ∧ H a = some (MPX.exo a (G.cl c) d) ∧ (∀ e, d = some e → ∃ fs, H e = some (MPX.exd e fs)) ∧ F a = some (MPX.exo a (G.cl c) d) := by
  obtain ⟨a, rfl, h⟩ := r
  by_cases hv : G.hv c = true
  · rw [if_pos hv] at h
    obtain ⟨d, x, h1, h2, h3⟩ := h
    exact ⟨a, some d, rfl, g.ex _ _ h1, fun e q => by cases q; exact ⟨_, g.ex _ _ h2⟩, h1⟩
  · rw [if_neg hv] at h
    exact ⟨a, none, rfl, g.ex _ _ h, fun e q => (nomatch q), h⟩
theorem max_fold : ∀ (ns : List Int) (n : Int), ns.foldl max n ∈ n :: ns ∧ ∀ m ∈ n :: ns, m ≤ ns.foldl max n
  | [], n => ⟨List.mem_cons_self, fun m h => by rw [List.mem_singleton.mp h]; exact Int.le_refl _⟩
  | k :: ns, n => by
    obtain ⟨h1, h2⟩ := max_fold ns (max n k)
    refine ⟨?_, fun m h => ?_⟩
    · rcases List.mem_cons.mp h1 with z | z
      · show ns.foldl max (max n k) ∈ _
        rw [z]
        by_cases c : n ≤ k
        · rw [Int.max_eq_right c]; simp
        · rw [Int.max_eq_left (by omega)]; simp
      · exact List.mem_cons_of_mem _ (List.mem_cons_of_mem _ z)
    · have b : max n k ≤ ns.foldl max (max n k) := h2 _ List.mem_cons_self
      show m ≤ ns.foldl max (max n k)
      rcases List.mem_cons.mp h with z | z
      · rw [z]; omega
      · rcases List.mem_cons.mp z with z | z
        · rw [z]; omega
        · exact h2 m (List.mem_cons_of_mem _ z)
theorem dkW_ok (g : GoodS G ι F S H) {kvs : List (Key × W)} (r : WR G ι F x v) (e : dkW S x = some kvs) : ∃ a kv, v = .ref a ∧ Rd H a (.dK kv) ∧ KR G ι F kvs kv := by
  unfold dkW at e
  split at e
  · rename_i n
    obtain ⟨a, h1, rfl⟩ := r
    split at e
    · rename_i k hs
      cases e
      obtain ⟨f, kv, h2, h3⟩ := g.obj n _ a hs h1
      exact ⟨a, kv, rfl, .inl h2, h3⟩
    · cases e
  · split at e
    · cases e
    · obtain ⟨a, kv, rfl, hr, ht⟩ := dkOf_at (ι := ι) e r
      exact ⟨a, kv, rfl, .inl (g.ex _ _ hr), ht⟩
  · cases e
theorem dtW_ok (g : GoodS G ι F S H) {kvs : List (List Key × W)} (r : WR G ι F x v) (e : dtW S x = some kvs) : ∃ a kv, v = .ref a ∧ Rd H a (.dT kv) ∧ KR G ι F kvs kv := by
  unfold dtW at e
  split at e
  · rename_i n
    obtain ⟨a, h1, rfl⟩ := r
    split at e
    · rename_i k hs
      cases e
      obtain ⟨f, kv, h2, h3⟩ := g.obj n _ a hs h1
      exact ⟨a, kv, rfl, .inl h2, h3⟩
    · cases e
  · obtain ⟨a, kv, rfl, hr, ht⟩ := dtOf_ok (ι := ι) e r
    exact ⟨a, kv, rfl, .inl (g.ex _ _ hr), ht⟩
  · cases e
theorem keys_eq {κ : Type} : ∀ {kvs : List (κ × W)} {kv : List (κ × V)}, KR G ι F kvs kv → kvs.map (·.1) = kv.map (·.1)
  | _, _, .nil => rfl
  | _, _, .cons h t => by rw [List.map_cons, List.map_cons, keys_eq t, h.1]
theorem key_wr (k : Key) : WR G ι F (.d (keyD k)) (kV k) := by cases k <;> constructor
theorem keys_wrs : ∀ ks : List Key, WRs G ι F (ks.map fun k => .d (keyD k)) (ks.map kV)
  | [] => .nil
  | k :: r => .cons (key_wr k) (keys_wrs r)
theorem at_get : ∀ {xs : List V} {ds : List PyData} (_ : AtL G.K F xs ds) (i : Nat) {y : V}, xs[i]? = some y → ∃ w, ds[i]? = some w ∧ At G.K F y w
  | _, [], .nil, i, _, e => by simp at e
  | _, _ :: _, .cons h _, 0, _, e => by simp at e; subst e; exact ⟨_, rfl, h⟩
  | _, _ :: _, .cons _ t, i + 1, _, e => by
    obtain ⟨w, h1, h2⟩ := at_get t i (by simpa using e)
    exact ⟨w, by simpa using h1, h2⟩
theorem all_lay : ∀ {xs : List V} {ds : List PyData}, AtL G.K F xs ds → PyData.canLayAll0 ds = true → Paired (fun v d => At G.K F v d ∧ d.canLay0 = true) xs ds
  | _, [], .nil, _ => .nil
  | _, _ :: _, .cons h t, c => by
    simp only [PyData.canLayAll0, Bool.and_eq_true] at c
    exact .cons ⟨h, c.1⟩ (all_lay t c.2)
theorem lay_wrs : ∀ {xs : List V} {ds : List PyData}, Paired (fun v d => At G.K F v d ∧ d.canLay0 = true) xs ds → WRs G ι F (ds.map .d) xs
  | _, _, .nil => .nil
  | _, _, .cons h t => .cons h.1 (lay_wrs t)
theorem seqD_ok (g : GoodS G ι F S H) {ds : List PyData} (r : WR G ι F x v) (e : (seqL S x).bind allD = some ds) : ∃ a xs, v = .ref a ∧ SqL G.K H a xs ∧ xs.length ≤ sizeLine ∧ AtL G.K F xs ds := by
  cases q : seqL S x with
  | none => rw [q] at e; cases e
  | some ws =>
    rw [q] at e
    obtain ⟨a, xs, rfl, h1, h2, h3⟩ := seqL_ok g r q
    rw [allD_eq (show allD ws = some ds from e)] at h3
    exact ⟨a, xs, rfl, h1, h2, wrs_at h3⟩
theorem bi_okW {gd : Gd} (Y : GdOk G gd) {b : Bi} {ws : List W} {xs : List V} (g : GoodS G ι F S H) (r : WRs G ι F ws xs) (h : Post G (RE G) E ι F H (biW gd b m ws S) Q) : rBi G.K b xs H Q := by
  unfold biW at h
  split at h
  · obtain ⟨_, rfl, r1⟩ := wrs1 r
    split at h
    · rename_i n e
      have q := hereI h g
      rcases len_ok g r1 e with z | ⟨p, kvs, rfl, z1, z2⟩
      · exact .inl ⟨_, n, rfl, z, q⟩
      · subst z2
        exact .inr ⟨p, kvs, rfl, z1, q⟩
    · exact h.elim
  · rename_i c w t
    obtain ⟨_, _, rfl, r1, r2⟩ := wrs2 r
    cases (show _ = V.ty t from r2)
    split at h
    · rename_i k e
      obtain ⟨a, d, rfl, h1, h2, _⟩ := exn_at g r1
      obtain ⟨e1, e2⟩ := Y.sub _ _ _ e
      exact .inr ⟨a, _, d, .ty t, .type t, k, rfl, h1, h2, .ty t, (Y.ex _ e1).1, e2, hereB h g⟩
    · exact h.elim
  · rename_i c w j
    obtain ⟨_, _, rfl, r1, r2⟩ := wrs2 r
    cases (show _ = V.ref (G.cl j) from r2)
    split at h
    · rename_i k e
      obtain ⟨a, d, rfl, h1, h2, _⟩ := exn_at g r1
      obtain ⟨e1, e2⟩ := Y.sub _ _ _ e
      exact .inr ⟨a, _, d, .ref (G.cl j), .ref (G.cl j), k, rfl, h1, h2, .own _, (Y.ex _ e1).1, e2, hereB h g⟩
    · exact h.elim
  · rename_i x t _
    obtain ⟨_, _, rfl, r1, r2⟩ := wrs2 r
    split at h
    · rename_i a e
      split at h
      · rename_i ht
        cases (show _ = V.ty t from r2)
        obtain ⟨z1, z2⟩ := typ_ok g r1 e
        exact .inl ⟨_, .ty t, _, _, _, rfl, .ty t, z1, kit_tab G.K a z2 t ht, hereB h g⟩
      · exact h.elim
    · exact h.elim
  · rename_i x j _
    obtain ⟨_, _, rfl, r1, r2⟩ := wrs2 r
    cases (show _ = V.ref (G.cl j) from r2)
    split at h
    · rename_i a e
      split at h
      · rename_i hj
        obtain ⟨z1, z2⟩ := typ_ok g r1 e
        exact .inl ⟨_, .ref (G.cl j), _, _, _, rfl, .own _, z1, Y.dat a z2 j hj, hereB h g⟩
      · exact h.elim
    · exact h.elim
  · obtain ⟨_, _, rfl, r1, r2⟩ := wrs2 r
    cases inv_int r1; cases inv_int r2
    exact .inl ⟨_, _, rfl, hereI h g⟩
  · obtain ⟨_, rfl, r1⟩ := wrs1 r
    split at h
    · rename_i l e
      obtain ⟨a, xs, rfl, q, z, p⟩ := seqL_ok g r1 e
      split at h
      · rename_i n ns e2
        rw [ints_ok e2 p] at q
        obtain ⟨m1, m2⟩ := max_fold ns n
        refine .inr ⟨a, n :: ns, rfl, q, Nat.succ_pos _, fun m hm hle => ?_⟩
        have e : m = ns.foldl max n := Int.le_antisymm (m2 m hm) (hle _ m1)
        rw [e]
        exact hereI h g
      · exact h.elim
    · exact h.elim
  · obtain ⟨_, _, rfl, r1, r2⟩ := wrs2 r
    cases inv_int r1; cases inv_int r2
    exact .inl ⟨_, _, rfl, hereI h g⟩
  · obtain ⟨_, rfl, r1⟩ := wrs1 r
    split at h
    · rename_i d ds e
      split at h
      · rename_i hc
        rw [Bool.and_eq_true] at hc
        obtain ⟨a, xs, rfl, q, z, t⟩ := seqD_ok g r1 e
        refine .inr ⟨a, xs, d, ds, rfl, q, AtL.dp _ (AtL.mono g.ex _ t) hc.2, hc.1, hc.2, fun i y e1 e2 => ?_⟩
        obtain ⟨w, g1, g2⟩ := at_get t i e1
        rw [e2] at g1
        cases g1
        exact Post.here h g (show WR G ι F (.d _) y from g2)
      · exact h.elim
    · exact h.elim
  · obtain ⟨_, rfl, r1⟩ := wrs1 r
    split at h
    · split at h
      · rename_i kvs e
        obtain ⟨a, kv, rfl, hr, ht⟩ := dkW_ok g r1 e
        split at h
        · rename_i hc
          rw [Bool.and_eq_true, decide_eq_true_eq] at hc
          have ke := keys_eq ht
          refine .inr ⟨a, kv, rfl, hr, by rw [← ke]; exact hc.1, fun p hp => ?_⟩
          rw [← ke]
          have z : WRs G ι F ((MPS.isort (PySem.W.dataLe false MPS.keyPD) (kvs.map (·.1))).map fun k => W.d (keyD k)) ((MPS.isort (PySem.W.dataLe false MPS.keyPD) (kvs.map (·.1))).map kV) := keys_wrs _
          refine mkL_ok g z ?_ h p hp
          rw [List.length_map, MPS.isort_len, List.length_map]
          exact lim_lt hc.2
        · exact h.elim
      · exact h.elim
    · split at h
      · rename_i ds e
        split at h
        · rename_i hc
          rw [Bool.and_eq_true] at hc
          obtain ⟨a, xs, rfl, q, z, t⟩ := seqD_ok g r1 e
          refine .inl ⟨a, xs, ds, _, rfl, q, all_lay t hc.2, fun v d h => At.dp d (At.mono g.ex d h.1) h.2, hc.1, fun ys p hy hp => ?_⟩
          refine mkL_ok g (lay_wrs hy) ?_ h p hp
          have e1 := hy.length
          have e2 := t.length
          have e3 : (MPS.sortD ds).length = ds.length := MPS.isort_len _ _
          omega
        · exact h.elim
      · exact h.elim
  · obtain ⟨_, rfl, r1⟩ := wrs1 r
    cases inv_int r1
    split at h
    · rename_i i hc
      exact .inl ⟨i, rfl, hc, Post.here h g (show WR G ι F (.d (.str _)) (.str _) from At.str _)⟩
    · exact h.elim
  · obtain ⟨_, rfl, r1⟩ := wrs1 r
    cases inv_str r1
    exact .inr ⟨_, rfl, Post.here h g r1⟩
  · obtain ⟨_, rfl, r1⟩ := wrs1 r
    split at h
    · rename_i kvs e
      obtain ⟨a, kv, rfl, hr, ht⟩ := dkW_ok g r1 e
      refine ⟨a, kv, rfl, hr, fun p hp => ?_⟩
      have pre : ι <+: ι ++ [p] := List.prefix_append _ _
      have hF : F p = none := by
        cases q : F p with
        | none => rfl
        | some o => rw [g.ex p o q] at hp; cases hp
      obtain ⟨g', l⟩ := g.push (p := p) (u := .dK kv) (o := .dk kvs) hp ⟨hF, kv, upd_same, ht.up pre fun _ _ h => h⟩
      exact h _ _ _ _ l g' ⟨p, by rw [← g.len]; simp, rfl⟩
    · exact h.elim
  · obtain ⟨_, rfl, r1⟩ := wrs1 r
    split at h
    · rename_i l e
      obtain ⟨a, xs, rfl, q, z, p⟩ := seqL_ok g r1 e
      split at h
      · rename_i ns e2
        rw [ints_ok e2 p] at q
        exact ⟨a, ns, rfl, q, hereI h g⟩
      · exact h.elim
    · exact h.elim
  · obtain ⟨_, rfl, r1⟩ := wrs1 r
    cases inv_int r1
    exact ⟨_, rfl, .inl ⟨_, rfl, hereI h g⟩⟩
  · obtain ⟨_, rfl, r1⟩ := wrs1 r
    cases inv_bl r1
    exact ⟨_, rfl, .inr ⟨_, rfl, hereI h g⟩⟩
  · obtain ⟨_, rfl, r1⟩ := wrs1 r
    split at h
    · rename_i d e
      split at h
      · rename_i hc
        simp only [Bool.and_eq_true, Bool.not_eq_true', decide_eq_true_eq] at hc
        obtain ⟨⟨⟨⟨c1, c2⟩, c3⟩, c4⟩, c5⟩ := hc
        exact ⟨_, d, rfl, rb_dp g e r1 c1, c2, c3, c4, lim_lt c5, Post.here h g (show WR G ι F (.d (.str d.shown)) (.str d.shown) from At.str _)⟩
      · exact h.elim
    · exact h.elim
  · obtain ⟨_, rfl, r1⟩ := wrs1 r
    split at h
    · rename_i l e
      obtain ⟨a, xs, rfl, q, z, p⟩ := seqL_ok g r1 e
      exact .inl ⟨a, xs, rfl, .inl q, mkL_ok g p z h⟩
    · split at h
      · rename_i l e
        obtain ⟨a, xs, rfl, q, z, p⟩ := seqT_ok g r1 e
        exact .inl ⟨a, xs, rfl, .inr q, mkL_ok g p z h⟩
      · split at h
        · rename_i kvs e
          split at h
          · rename_i hz
            obtain ⟨a, kv, rfl, hr, ht⟩ := dkW_ok g r1 e
            refine .inr (.inl ⟨a, kv, rfl, hr, fun p hp => ?_⟩)
            have e1 : (kvs.map fun p => W.d (keyD p.1)) = (kvs.map (·.1)).map fun k => W.d (keyD k) := by rw [List.map_map]; rfl
            have e2 : (kv.map fun p => kV p.1) = (kv.map (·.1)).map kV := by rw [List.map_map]; rfl
            rw [e1] at h
            rw [e2, ← keys_eq ht]
            exact mkL_ok g (keys_wrs _) (by rw [List.length_map, List.length_map]; exact lim_lt hz) h p hp
          · exact h.elim
        · exact h.elim
  · obtain ⟨_, rfl, r1⟩ := wrs1 r
    split at h
    · rename_i l e
      obtain ⟨a, xs, rfl, q, z, p⟩ := seqL_ok g r1 e
      exact ⟨a, xs, rfl, .inl ⟨q, mkT_ok g p z h⟩⟩
    · split at h
      · have r1' := r1
        cases r1' with
        | @tup a l ds q z t => exact ⟨a, l, rfl, .inr ⟨.inl (.inl (g.ex _ _ q)), Post.here h g r1⟩⟩
      · exact h.elim
  · exact h.elim
/-! methods and stores -/
theorem mt_okW {k : Mt} {ws : List W} {xs : List V} (g : GoodS G ι F S H) (r1 : WR G ι F x v) (r : WRs G ι F ws xs) (h : Post G (RE G) E ι F H (mtW k x ws S) Q) : rMt G.K k v xs H Q := by
  unfold mtW at h
  split at h
  · rename_i n w
    obtain ⟨_, rfl, r2⟩ := wrs1 r
    obtain ⟨a, h1, rfl⟩ := r1
    split at h
    · rename_i l hs
      obtain ⟨f, ys, h2, h3, h4⟩ := g.obj n _ a hs h1
      split at h
      · rename_i hl
        have hl2 : ys.length < sizeLine := by rw [← h4.length]; exact Nat.lt_of_lt_of_le hl lim_le
        refine ⟨a, ys, _, rfl, rfl, h2, hl2, ?_⟩
        obtain ⟨g', l'⟩ := g.write (u := .lst (ys ++ [_])) (o := .lst (l ++ [w])) hs h1 f (fun o u e => by rw [h2] at e; cases e) ⟨f, _, upd_same, by rw [List.length_append]; exact hl2, papp h4 (.cons r2 .nil)⟩
        exact h _ _ _ _ l' g' At.non
      · exact h.elim
    · exact h.elim
  · cases wrs0 r
    rename_i n
    obtain ⟨a, h1, rfl⟩ := r1
    split at h
    · rename_i l hs
      obtain ⟨f, ys, h2, h3, h4⟩ := g.obj n _ a hs h1
      split at h
      · rename_i w hw
        rw [h4.length] at hw
        obtain ⟨z, e1, e2⟩ := pget h4 hw
        refine ⟨a, ys, z, rfl, rfl, h2, e1, ?_⟩
        obtain ⟨g', l'⟩ := g.write (u := .lst ys.dropLast) (o := .lst l.dropLast) hs h1 f (fun o u e => by rw [h2] at e; cases e) ⟨f, _, upd_same, by rw [List.length_dropLast]; omega, pdropLast h4⟩
        exact h _ _ _ _ l' g' (e2.le l')
      · exact h.elim
    · exact h.elim
  · rename_i n i
    obtain ⟨_, rfl, r2⟩ := wrs1 r
    cases inv_int r2
    obtain ⟨a, h1, rfl⟩ := r1
    split at h
    · rename_i l hs
      obtain ⟨f, ys, h2, h3, h4⟩ := g.obj n _ a hs h1
      split at h
      · rename_i hi
        split at h
        · rename_i w hw
          obtain ⟨z, e1, e2⟩ := pget h4 hw
          have hsz : (sizeLine : Nat) < 2 ^ 63 := line63
          have hl := h4.length
          refine ⟨a, ys, i, i.toNat, z, rfl, rfl, h2, by omega, by omega, ?_, e1, ?_⟩
          · unfold seqIndex?
            have c1 : ¬ i < 0 := by omega
            have c2 : i < (ys.length : Int) := by omega
            simp [c1, c2, hi.1]
          obtain ⟨g', l'⟩ := g.write (u := .lst (ys.eraseIdx i.toNat)) (o := .lst (l.eraseIdx i.toNat)) hs h1 f (fun o u e => by rw [h2] at e; cases e) ⟨f, _, upd_same, by rw [List.length_eraseIdx]; split <;> omega, perase _ h4⟩
          exact h _ _ _ _ l' g' (e2.le l')
        · exact h.elim
      · exact h.elim
    · exact h.elim
  · rename_i n w
    obtain ⟨_, rfl, r2⟩ := wrs1 r
    obtain ⟨a, h1, rfl⟩ := r1
    split at h
    · rename_i l r' hs e
      obtain ⟨f, ys, h2, h3, h4⟩ := g.obj n _ a hs h1
      obtain ⟨b, zs, rfl, q, z, p⟩ := seqL_ok g r2 e
      split at h
      · rename_i hl
        have hl2 : ys.length + zs.length ≤ sizeLine := by rw [← h4.length, ← p.length]; exact lim_lt hl
        refine ⟨a, b, ys, zs, rfl, rfl, h2, q, hl2, ?_⟩
        obtain ⟨g', l'⟩ := g.write (u := .lst (ys ++ zs)) (o := .lst (l ++ r')) hs h1 f (fun o u e => by rw [h2] at e; cases e) ⟨f, _, upd_same, by rw [List.length_append]; exact hl2, papp h4 p⟩
        exact h _ _ _ _ l' g' At.non
      · exact h.elim
    · exact h.elim
  · obtain ⟨_, rfl, r2⟩ := wrs1 r
    split at h
    · rename_i ds a' e1 e2
      split at h
      · rename_i hs
        rw [Bool.and_eq_true] at hs
        split at h
        · rename_i j hj
          have d1 := rb_dp g e1 r1 hs.2
          have d1' := d1
          cases d1' with
          | @lst b xs _ q t =>
          obtain ⟨hlt, hv, hno⟩ := List.findIdx?_eq_some_iff_getElem.mp hj
          refine ⟨b, _, a', ds, j, ds[j], rfl, rfl, d1, rb_dp g e2 r2 hs.1, hs.2, hs.1, List.getElem?_eq_getElem hlt, hv, fun m z' hm hz => ?_, hereI h g⟩
          have hml : m < ds.length := by omega
          rw [List.getElem?_eq_getElem hml] at hz
          cases hz
          have := hno m hm
          simpa using this
        · exact h.elim
      · exact h.elim
    · exact h.elim
  · obtain ⟨_, rfl, r2⟩ := wrs1 r
    split at h
    · rename_i w e
      obtain ⟨a, rfl, q⟩ := dget_ok g r1 r2 e
      rcases q with ⟨e1, e2⟩ | ⟨w', z, e1, e2, e3⟩
      · cases e1
      · cases e1
        exact ⟨a, _, some z, rfl, rfl, e2, Post.here h g e3⟩
    · rename_i e
      obtain ⟨a, rfl, q⟩ := dget_ok g r1 r2 e
      rcases q with ⟨e1, e2⟩ | ⟨w', z, e1, e2, e3⟩
      · exact ⟨a, _, none, rfl, rfl, e2, Post.here h g (show WR G ι F (.d .none) .non from At.non)⟩
      · cases e1
    · exact h.elim
  · obtain ⟨_, _, rfl, r2, r3⟩ := wrs2 r
    split at h
    · rename_i w e
      obtain ⟨a, rfl, q⟩ := dget_ok g r1 r2 e
      rcases q with ⟨e1, e2⟩ | ⟨w', z, e1, e2, e3⟩
      · cases e1
      · cases e1
        exact ⟨a, _, _, some z, rfl, rfl, e2, Post.here h g e3⟩
    · rename_i e
      obtain ⟨a, rfl, q⟩ := dget_ok g r1 r2 e
      rcases q with ⟨e1, e2⟩ | ⟨w', z, e1, e2, e3⟩
      · exact ⟨a, _, _, none, rfl, rfl, e2, Post.here h g r3⟩
      · cases e1
    · exact h.elim
  · exact h.elim
theorem prev {α β : Type} {F : α → β → Prop} : ∀ {xs : List α} {ys : List β}, Paired F xs ys → Paired F xs.reverse ys.reverse
  | _, _, .nil => .nil
  | _, _, .cons h t => by rw [List.reverse_cons, List.reverse_cons]; exact papp (prev t) (.cons h .nil)
theorem u1_okW {ub : U1} {m : Bool} (g : GoodS G ι F S H) (r1 : WR G ι F x v) (h : Post G (RE G) E ι F H (u1W ub m x S) Q) : rU1 G.K ub v H Q := by
  unfold u1W at h
  split at h
  · split at h
    · rename_i l e
      obtain ⟨a, xs, rfl, q, z, p⟩ := seqL_ok g r1 e
      exact ⟨a, xs, rfl, q, mkL_ok g (prev p) (by rw [List.length_reverse]; exact z) h⟩
    · exact h.elim
  · split at h
    · split at h
      · rename_i ds ks e
        split at h
        · rename_i hz
          cases r1 with
          | @lst a xs _ q z t =>
          obtain ⟨rfl, rfl⟩ := keysL_ok e t
          refine ⟨a, ks, rfl, g.ex.l q, ?_, hereI h g⟩
          show ks.length + 1 < 4096
          omega
        · exact h.elim
      · exact h.elim
    · exact h.elim
  · split at h
    · split at h
      · rename_i ds ns e
        split at h
        · rename_i hz
          cases r1 with
          | @lst a xs _ q z t =>
          have e2 := ints_ok e (at_wrs (G := G) (ι := ι) t)
          subst e2
          refine ⟨a, ns, rfl, g.ex.l q, by show ns.length + 1 < 4096; omega, fun p hp => ?_⟩
          have l1 : ((MPS.isort (fun a b => decide (a ≤ b)) (MPS.dd ns)).map V.int).length ≤ sizeLine := by
            rw [List.length_map, MPS.isort_len]
            have := MPS.dd_len ns
            exact lim_lt (by show _ ≤ 1000000; omega)
          refine mkL_ok g ?_ l1 h p hp
          have il : ∀ l : List Int, WRs G ι F (l.map fun i => .d (.int i)) (l.map V.int) := fun l => by
            induction l with
            | nil => exact .nil
            | cons i l ih => exact .cons (At.int i) ih
          exact il _
        · exact h.elim
      · exact h.elim
    · exact h.elim
  · split at h
    · cases inv_int r1
      split at h
      · rename_i n hn
        refine ⟨n, rfl, RgOk.of_le (by omega) (by omega) (by omega) (by omega), fun p hp => ?_⟩
        have e : rgV 0 n = (List.range n.toNat).map fun i => V.int (i : Nat) := by
          unfold rgV
          rw [Int.sub_zero]
          exact List.map_congr_left fun i _ => by rw [Int.zero_add]
        rw [e]
        have il : ∀ l : List Nat, WRs G ι F (l.map fun i => .d (.int (i : Nat))) (l.map fun i => V.int (i : Nat)) := fun l => by
          induction l with
          | nil => exact .nil
          | cons i l ih => exact .cons (At.int i) ih
        refine mkL_ok g (il _) ?_ h p hp
        rw [List.length_map, List.length_range]
        exact lim_lt (by show _ ≤ 1000000; omega)
      · exact h.elim
    · exact h.elim
theorem any_key {κ : Type} [DecidableEq κ] {q : κ} : ∀ {kvs : List (κ × W)} {kv : List (κ × V)}, KR G ι F kvs kv → (kvs.any fun p => decide (p.1 = q)) = (kv.any fun p => decide (p.1 = q))
  | _, _, .nil => rfl
  | (_, _) :: _, (_, _) :: _, .cons h t => by
    rw [List.any_cons, List.any_cons, any_key t]
    have := h.1
    simp only at this
    rw [this]
theorem map_key {κ : Type} [DecidableEq κ] {q : κ} {w : W} {v : V} (r : WR G ι F w v) : ∀ {kvs : List (κ × W)} {kv : List (κ × V)}, KR G ι F kvs kv → KR G ι F (kvs.map fun p => if p.1 = q then (p.1, w) else p) (kv.map fun p => if p.1 = q then (p.1, v) else p)
  | _, _, .nil => .nil
  | (k, _) :: _, (_, _) :: _, .cons h t => by
    have h1 := h.1
    have h2 := h.2
    simp only at h1 h2
    subst h1
    rw [List.map_cons, List.map_cons]
    refine .cons ?_ (map_key r t)
    by_cases e : k = q
    · rw [if_pos e, if_pos e]; exact ⟨rfl, r⟩
    · rw [if_neg e, if_neg e]; exact ⟨rfl, h2⟩
theorem put_ok {κ : Type} [DecidableEq κ] {q : κ} {w : W} {v : V} {kvs : List (κ × W)} {kv : List (κ × V)} (r : WR G ι F w v) (h : KR G ι F kvs kv) : KR G ι F (putW kvs q w) (putK kv q v) := by
  unfold putW putK
  rw [any_key h]
  split
  · exact map_key r h
  · exact papp h (.cons ⟨rfl, r⟩ .nil)
theorem set_okW {w : W} {z : V} {Q : Hp → Prop} (g : GoodS G ι F S H) (r1 : WR G ι F x v) (r2 : WR G ι F y u) (r3 : WR G ι F w z) (h : Post G (fun _ _ (_ : Unit) (_ : Unit) => True) E ι F H (setW x y w S) (fun _ H => Q H)) : rSet v u z H Q := by
  unfold setW at h
  split at h
  · rename_i n
    obtain ⟨a, h1, rfl⟩ := r1
    split at h
    · rename_i l hs
      obtain ⟨f, ys, h2, h3, h4⟩ := g.obj n _ a hs h1
      split at h
      · rename_i i
        cases inv_int r2
        split at h
        · rename_i j hj
          rw [h4.length] at hj
          obtain ⟨g', l'⟩ := g.write (u := .lst (ys.set j z)) (o := .lst (l.set j w)) hs h1 f (fun o u e => by rw [h2] at e; cases e) ⟨f, _, upd_same, by rw [List.length_set]; exact h3, pset r3 j h4⟩
          exact .inl ⟨a, ys, i, j, rfl, rfl, h2, hj, h _ _ _ () l' g' trivial⟩
        · exact h.elim
      · exact h.elim
    · rename_i l hs
      obtain ⟨f, ys, h2, h4⟩ := g.obj n _ a hs h1
      split at h
      · rename_i k
        split at h
        · rename_i q hq
          split at h
          · rename_i hl
            cases kV_of hq r2
            obtain ⟨g', l'⟩ := g.write (u := .dK (putK ys q z)) (o := .dk (putW l q w)) hs h1 f (fun o u e => by rw [h2] at e; cases e) ⟨f, _, upd_same, put_ok r3 h4⟩
            exact .inr ⟨a, _, rfl, .inl ⟨ys, q, h2, rfl, by rw [← h4.length]; exact Nat.lt_of_lt_of_le hl lim_le, rfl⟩, h _ _ _ () l' g' trivial⟩
          · exact h.elim
        · exact h.elim
      · exact h.elim
    · rename_i l hs
      obtain ⟨f, ys, h2, h4⟩ := g.obj n _ a hs h1
      split at h
      · rename_i k
        split at h
        · rename_i q hq
          split at h
          · rename_i hl
            obtain ⟨⟨b, rfl, hb⟩, _⟩ := keysOf_ok hq r2
            obtain ⟨g', l'⟩ := g.write (u := .dT (putK ys q z)) (o := .dt (putW l q w)) hs h1 f (fun o u e => by rw [h2] at e; cases e) ⟨f, _, upd_same, put_ok r3 h4⟩
            exact .inr ⟨a, _, rfl, .inr ⟨ys, q, b, h2, rfl, g.ex _ _ hb, by rw [← h4.length]; exact Nat.lt_of_lt_of_le hl lim_le, rfl⟩, h _ _ _ () l' g' trivial⟩
          · exact h.elim
        · exact h.elim
      · exact h.elim
    · exact h.elim
  · exact h.elim
end
end MP
namespace MP
open PySem L2 PyProof.Rows PySem.Spec
/-! ## slots -/
def ER (G : Gb) (ι : List Addr) (F : Hp) (ρ : Rho) (σ : L2.St) : Prop := Paired (fun (o : Option W) (p : Option V) => ∀ w, o = some w → ∃ v, p = some v ∧ WR G ι F w v) ρ σ
section
variable {G : Gb} {E : XK} {ι ι' ι1 : List Addr} {F H F' H' F1 H1 : Hp} {S : Sto} {ρ ρ' : Rho} {σ : L2.St}
theorem ER.le (l : Le ι F H ι' F' H') (e : ER G ι F ρ σ) : ER G ι' F' ρ σ := Paired.mapP e fun _ _ r w h => by
  obtain ⟨v, h1, h2⟩ := r w h
  exact ⟨v, h1, h2.le l⟩
theorem ER.set (e : ER G ι F ρ σ) (i : Nat) {w : W} {v : V} (r : WR G ι F w v) : ER G ι F (ρ.set i (some w)) (σ.set i (some v)) := pset (fun w' h => by cases h; exact ⟨v, rfl, r⟩) i e
theorem ER.get (e : ER G ι F ρ σ) {i : Nat} {w : W} (h : ρ[i]? = some (some w)) : ∃ v, σ[i]? = some (some v) ∧ WR G ι F w v := by
  obtain ⟨p, h1, h2⟩ := pget e h
  obtain ⟨v, rfl, h3⟩ := h2 w rfl
  exact ⟨v, h1, h3⟩
theorem ER.wipe (e : ER G ι F ρ σ) : ∀ vs : List Nat, ER G ι F (wipeW ρ vs) (L2.wipe σ vs)
  | [] => e
  | v :: vs => pset (fun w' h => by cases h) v (ER.wipe e vs)
theorem wipe_set {i : Nat} {x : Option V} : ∀ {vs : List Nat} {σ : L2.St}, i ∈ vs → L2.wipe (σ.set i x) vs = L2.wipe σ vs
  | v :: vs, σ, h => by
    unfold L2.wipe
    by_cases hi : i ∈ vs
    · rw [wipe_set hi]
    · have e : v = i := by
        rcases List.mem_cons.mp h with h | h
        · exact h.symm
        · exact absurd h hi
      subst e
      have comm : ∀ {ws : List Nat} {σ : L2.St}, v ∉ ws → L2.wipe (σ.set v x) ws = (L2.wipe σ ws).set v x := by
        intro ws
        induction ws with
        | nil => intro σ _; rfl
        | cons u us ih =>
          intro σ hu
          unfold L2.wipe
          rw [ih (fun z => hu (List.mem_cons_of_mem _ z)), List.set_comm]
          exact fun z => hu (by rw [z]; exact List.mem_cons_self)
      rw [comm hi, List.set_set]
theorem wipe_idem : ∀ (vs : List Nat) {σ : L2.St}, L2.wipe (L2.wipe σ vs) vs = L2.wipe σ vs
  | [], _ => rfl
  | v :: vs, σ => by
    show L2.wipe ((L2.wipe σ vs).set v none) (v :: vs) = (L2.wipe σ vs).set v none
    rw [wipe_set List.mem_cons_self]
    show (L2.wipe (L2.wipe σ vs) vs).set v none = _
    rw [wipe_idem vs]
/-! ## heaps: a thing that is nobody's, a thing taken over -/
theorem GoodS.other {D : Addr} {u : HO} (g : GoodS G ι F S H) (hd : D ∉ ι) (hf : F D = none) : GoodS G ι F S (upd H D u) := by
  refine ⟨fun a o h => ?_, g.len, g.nd, fun n o a h1 h2 => ?_, fun a ha => ?_⟩
  · rw [upd_ne (ne_of_none h hf)]; exact g.ex a o h
  · have z : a ≠ D := fun z => hd (by rw [← z]; exact List.mem_of_getElem? h2)
    exact (g.obj n o a h1 h2).up (List.prefix_refl _) (fun _ _ h => h) id (fun v h => by rw [upd_ne z]; exact h)
  · rw [upd_ne (fun z => hd (by rw [← z]; exact ha))]; exact g.fr a ha
theorem Le.other {D : Addr} {u : HO} (l : Le ι1 F1 H1 ι F H) (h1 : H1 D = none) : Le ι1 F1 H1 ι F (upd H D u) where
  pre := l.pre
  ex := l.ex
  dom := fun a h => by
    rw [upd_ne (fun z => h (by rw [z]; exact h1))]; exact l.dom a h
  keep := fun a o n h => by
    rw [upd_ne (ne_of_none h h1)]; exact l.keep a o n h
  newF := l.newF
  newL := l.newL
  frz := fun a o u h => by
    rw [upd_ne (ne_of_none h h1)]; exact l.frz a o u h
theorem GoodS.free (g : GoodS G ι F S H) {p : Addr} (hp : H p = none) : p ∉ ι ∧ F p = none := by
  refine ⟨fun z => g.fr p z hp, ?_⟩
  cases q : F p with
  | none => rfl
  | some o => rw [g.ex p o q] at hp; cases hp
theorem adopt_ok {m : Bool} {ws : List W} {xs : List V} {Q : VK} {D : Addr} (g : GoodS G ι F S H) (l : Le ι1 F1 H1 ι F H) (h1 : H1 D = none) (hd : D ∉ ι) (hf : F D = none) (hD : H D = some (.lst xs)) (r : WRs G ι F ws xs) (hz : xs.length ≤ sizeLine)
    (h : Post G (RE G) E ι1 F1 H1 (mkL m ws S) Q) : Q (.ref D) H := by
  have ne : ∀ a ∈ ι, a ≠ D := fun a ha z => hd (by rw [← z]; exact ha)
  have obj : Post G (RE G) E ι1 F1 H1 (.ok (.ref S.length) (S ++ [.lst ws])) Q → Q (.ref D) H := fun h => by
    have pre : ι <+: ι ++ [D] := List.prefix_append _ _
    refine h (ι ++ [D]) F H (.ref D) ⟨l.pre.trans pre, l.ex, l.dom, l.keep, l.newF, fun a ha hn => ?_, l.frz⟩ ⟨g.ex, by simp [g.len], ?_, fun n o' a e1 e2 => ?_, fun a ha => ?_⟩ ⟨D, by rw [← g.len]; simp, rfl⟩
    · rcases List.mem_append.mp ha with z | z
      · exact l.newL a z hn
      · simp at z; subst z; exact h1
    · rw [List.nodup_append]
      exact ⟨g.nd, by simp, fun a ha b hb => by simp at hb; subst hb; exact ne a ha⟩
    · by_cases hn : n < S.length
      · rw [List.getElem?_append_left hn] at e1
        rw [List.getElem?_append_left (by rw [g.len]; exact hn)] at e2
        exact (g.obj n o' a e1 e2).up pre (fun _ _ h => h) id (fun _ h => h)
      · rw [List.getElem?_append_right (by omega)] at e1
        rw [List.getElem?_append_right (by rw [g.len]; omega)] at e2
        have e : n - S.length = 0 := by
          have := (List.getElem?_eq_some_iff.mp e1).1
          simp at this; omega
        rw [e] at e1
        rw [g.len, e] at e2
        simp at e1 e2
        subst e1 e2
        exact ⟨hf, xs, hD, hz, r.up pre fun _ _ h => h⟩
    · rcases List.mem_append.mp ha with z | z
      · exact g.fr a z
      · simp at z; subst z; rw [hD]; exact fun q => by cases q
  unfold mkL at h
  split at h
  · exact obj h
  · split at h
    · rename_i ds e
      have ex : Ex F (upd F D (.lst xs)) := Ex.new hf
      rw [allD_eq e] at r
      refine h ι (upd F D (.lst xs)) H (.ref D) ⟨l.pre, fun a o h => ex a o (l.ex a o h), l.dom, l.keep, fun a hn hF hH => ?_, l.newL, l.frz⟩ ⟨fun a o h => ?_, g.len, g.nd, fun n o a e1 e2 => ?_, g.fr⟩ (At.lst (.inl (.inl upd_same)) hz (AtL.mono ex _ (wrs_at r)))
      · rw [upd_ne (fun z => hH (by rw [z]; exact h1))]; exact l.newF a hn hF hH
      · by_cases z : a = D
        · subst z; rw [upd_same] at h; cases h; exact hD
        · rw [upd_ne z] at h; exact g.ex a o h
      · have z := ne a (List.mem_of_getElem? e2)
        exact (g.obj n o a e1 e2).up (List.prefix_refl _) ex (fun h => by rw [upd_ne z]; exact h) (fun v h => h)
    · exact obj h
/-! ## what is walked -/
def SrcR (G : Gb) (ι : List Addr) (F H : Hp) : Src → It → Prop
  | .lst w, J => ∃ a, WR G ι F w (.ref a) ∧ J = Itl G.K a
  | .tup w, J => ∃ a, WR G ι F w (.ref a) ∧ J = Itt G.K a
  | .str z, J => J = Its z
  | .rng lo n, J => J = Itr lo n
  | .enum w, J => ∃ a, WR G ι F w (.ref a) ∧ J = Ite G.K a
  | .zip x y, J => ∃ a b, WR G ι F x (.ref a) ∧ WR G ι F y (.ref b) ∧ J = Itz G.K a b
  | .zips t1 t2 x y, J => ∃ a b, WR G ι F x (.ref a) ∧ WR G ι F y (.ref b) ∧ J = MPZ.Itzs G.K t1 t2 a b
  | .vals n, J => ∃ a od kv, ι[n]? = some a ∧ H a = some (.frz od (.dK kv)) ∧ J = Itd a od kv
  | .items n, J => ∃ a od kv, ι[n]? = some a ∧ H a = some (.frz od (.dK kv)) ∧ J = Iti a od kv
theorem SrcR.le {s : Src} {J : It} (l : Le ι F H ι' F' H') (r : SrcR G ι F H s J) : SrcR G ι' F' H' s J := by
  cases s with
  | lst w => obtain ⟨a, h1, h2⟩ := r; exact ⟨a, h1.le l, h2⟩
  | tup w => obtain ⟨a, h1, h2⟩ := r; exact ⟨a, h1.le l, h2⟩
  | str z => exact r
  | rng lo n => exact r
  | enum w => obtain ⟨a, h1, h2⟩ := r; exact ⟨a, h1.le l, h2⟩
  | zip x y => obtain ⟨a, b, h1, h2, h3⟩ := r; exact ⟨a, b, h1.le l, h2.le l, h3⟩
  | zips t1 t2 x y => obtain ⟨a, b, h1, h2, h3⟩ := r; exact ⟨a, b, h1.le l, h2.le l, h3⟩
  | vals n => obtain ⟨a, od, kv, h1, h2, h3⟩ := r; exact ⟨a, od, kv, pre_get l.pre h1, l.frz _ _ _ h2, h3⟩
  | items n => obtain ⟨a, od, kv, h1, h2, h3⟩ := r; exact ⟨a, od, kv, pre_get l.pre h1, l.frz _ _ _ h2, h3⟩
theorem seqB_ok {t : Bool} {w : W} {v : V} {ws : List W} (g : GoodS G ι F S H) (r : WR G ι F w v) (e : seqB t S w = some ws) : ∃ a xs, v = .ref a ∧ MPZ.sqV G.K t H a xs ∧ xs.length ≤ sizeLine ∧ WRs G ι F ws xs := by
  cases t
  · exact seqL_ok g r e
  · exact seqT_ok g r e
theorem lkd_ok {n : Nat} {a : Addr} {kvs : List (Key × W)} (g : GoodS G ι F S H) (ha : ι[n]? = some a) (e : lkd S n = some kvs) : F a = none ∧ ∃ od kv, H a = some (.frz od (.dK kv)) ∧ KR G ι F kvs kv := by
  unfold lkd at e
  split at e
  · rename_i l hs
    cases e
    exact g.obj n _ a hs ha
  · cases e
def ItemR (G : Gb) (ι : List Addr) (F H : Hp) (it : IW) (x : V) (H' : Hp) : Prop :=
  match it with
  | .one w => H' = H ∧ WR G ι F w x
  | .two w1 w2 => ∃ T x1 x2, x = .ref T ∧ H T = none ∧ H' = upd H T (.tup [x1, x2]) ∧ WR G ι F w1 x1 ∧ WR G ι F w2 x2
theorem item_stop {i : Nat} {s : Src} {J : It} (g : GoodS G ι F S H) (r : SrcR G ι F H s J) (e : itemAt S i s = some none) : J.stop i H := by
  cases s with
  | lst w =>
    obtain ⟨a, h1, rfl⟩ := r
    simp only [itemAt, Option.map_eq_some_iff] at e
    obtain ⟨l, e1, e2⟩ := e
    obtain ⟨a', xs, h, q, z, p⟩ := seqL_ok g h1 e1
    cases h
    rw [Option.map_eq_none_iff, List.getElem?_eq_none_iff, p.length] at e2
    exact ⟨xs, q, e2⟩
  | tup w =>
    obtain ⟨a, h1, rfl⟩ := r
    simp only [itemAt, Option.map_eq_some_iff] at e
    obtain ⟨l, e1, e2⟩ := e
    obtain ⟨a', xs, h, q, z, p⟩ := seqT_ok g h1 e1
    cases h
    rw [Option.map_eq_none_iff, List.getElem?_eq_none_iff, p.length] at e2
    exact ⟨xs, q, e2⟩
  | str z =>
    cases r
    simp only [itemAt, Option.some.injEq, Option.map_eq_none_iff] at e
    show z.cps.size ≤ i
    exact Array.getElem?_eq_none_iff.mp e
  | rng lo n =>
    cases r
    simp only [itemAt, Option.some.injEq] at e
    split at e
    · cases e
    · show n ≤ i
      omega
  | enum w =>
    obtain ⟨a, h1, rfl⟩ := r
    simp only [itemAt, Option.map_eq_some_iff] at e
    obtain ⟨l, e1, e2⟩ := e
    obtain ⟨a', xs, h, q, z, p⟩ := seqL_ok g h1 e1
    cases h
    rw [Option.map_eq_none_iff, List.getElem?_eq_none_iff, p.length] at e2
    exact ⟨xs, q, e2⟩
  | zip x y =>
    obtain ⟨a, b, h1, h2, rfl⟩ := r
    simp only [itemAt] at e
    split at e
    · rename_i l r e1 e2
      obtain ⟨a', xs, h, q, z, p⟩ := seqL_ok g h1 e1
      cases h
      obtain ⟨b', ys, h, q', z', p'⟩ := seqL_ok g h2 e2
      cases h
      refine ⟨xs, ys, q, q', ?_⟩
      simp only [Option.some.injEq] at e
      split at e
      · cases e
      · rename_i hn
        rw [← p.length, ← p'.length]
        by_cases c1 : l.length ≤ i
        · exact .inl c1
        · by_cases c2 : r.length ≤ i
          · exact .inr c2
          · exact (hn _ _ (List.getElem?_eq_getElem (by omega)) (List.getElem?_eq_getElem (by omega))).elim
    · cases e
  | zips t1 t2 x y =>
    obtain ⟨a, b, h1, h2, rfl⟩ := r
    simp only [itemAt] at e
    split at e
    · rename_i l r e1 e2
      split at e
      · rename_i hlr
        obtain ⟨a', xs, h, q, z, p⟩ := seqB_ok g h1 e1
        cases h
        obtain ⟨b', ys, h, q', z', p'⟩ := seqB_ok g h2 e2
        cases h
        simp only [Option.some.injEq] at e
        split at e
        · cases e
        · rename_i hn
          have c : l.length ≤ i := by
            refine Nat.le_of_not_lt fun c => ?_
            exact (hn _ _ (List.getElem?_eq_getElem c) (List.getElem?_eq_getElem (by omega))).elim
          exact ⟨xs, ys, q, q', by rw [← p.length]; exact c, by rw [← p'.length, ← hlr]; exact c⟩
      · cases e
    · cases e
  | vals n =>
    obtain ⟨a, od, kv, h1, h2, rfl⟩ := r
    simp only [itemAt, Option.map_eq_some_iff] at e
    obtain ⟨l, e1, e2⟩ := e
    obtain ⟨_, od', kv', h3, p⟩ := lkd_ok g h1 e1
    rw [h2] at h3
    cases h3
    rw [Option.map_eq_none_iff, List.getElem?_eq_none_iff, Paired.length p] at e2
    exact ⟨h2, e2⟩
  | items n =>
    obtain ⟨a, od, kv, h1, h2, rfl⟩ := r
    simp only [itemAt, Option.map_eq_some_iff] at e
    obtain ⟨l, e1, e2⟩ := e
    obtain ⟨_, od', kv', h3, p⟩ := lkd_ok g h1 e1
    rw [h2] at h3
    cases h3
    rw [Option.map_eq_none_iff, List.getElem?_eq_none_iff, Paired.length p] at e2
    exact ⟨h2, e2⟩
theorem item_go {i : Nat} {s : Src} {J : It} {it : IW} (g : GoodS G ι F S H) (r : SrcR G ι F H s J) (e : itemAt S i s = some (some it)) : J.go i H ∧ ∀ x H', J.yld i H x H' → ItemR G ι F H it x H' := by
  cases s with
  | lst w =>
    obtain ⟨a, h1, rfl⟩ := r
    simp only [itemAt, Option.map_eq_some_iff] at e
    obtain ⟨l, e1, w', e2, rfl⟩ := e
    obtain ⟨a', xs, h, q, z, p⟩ := seqL_ok g h1 e1
    cases h
    obtain ⟨v, e3, e4⟩ := pget p e2
    refine ⟨⟨xs, v, q, e3⟩, fun x H' y => ⟨y.1, ?_⟩⟩
    have := y.2 xs q
    rw [e3] at this
    cases this
    exact e4
  | tup w =>
    obtain ⟨a, h1, rfl⟩ := r
    simp only [itemAt, Option.map_eq_some_iff] at e
    obtain ⟨l, e1, w', e2, rfl⟩ := e
    obtain ⟨a', xs, h, q, z, p⟩ := seqT_ok g h1 e1
    cases h
    obtain ⟨v, e3, e4⟩ := pget p e2
    refine ⟨⟨xs, v, q, e3⟩, fun x H' y => ⟨y.1, ?_⟩⟩
    have := y.2 xs q
    rw [e3] at this
    cases this
    exact e4
  | str z =>
    cases r
    simp only [itemAt, Option.some.injEq, Option.map_eq_some_iff] at e
    obtain ⟨c, e1, rfl⟩ := e
    refine ⟨(Array.getElem?_eq_some_iff.mp e1).1, fun x H' y => ⟨y.1, ?_⟩⟩
    obtain ⟨_, c', e2, rfl⟩ := y
    rw [e1] at e2
    cases e2
    exact At.str _
  | rng lo n =>
    cases r
    simp only [itemAt, Option.some.injEq] at e
    split at e
    · cases e
      refine ⟨by assumption, fun x H' y => ⟨y.1, ?_⟩⟩
      rw [y.2]
      exact At.int _
    · cases e
  | enum w =>
    obtain ⟨a, h1, rfl⟩ := r
    simp only [itemAt, Option.map_eq_some_iff] at e
    obtain ⟨l, e1, w', e2, rfl⟩ := e
    obtain ⟨a', xs, h, q, z, p⟩ := seqL_ok g h1 e1
    cases h
    obtain ⟨v, e3, e4⟩ := pget p e2
    refine ⟨⟨xs, v, q, e3⟩, fun x H' y => ?_⟩
    obtain ⟨T, x', y1, y2, y3, y4⟩ := y
    have := y4 xs q
    rw [e3] at this
    cases this
    exact ⟨T, _, _, y1, y2, y3, At.int _, e4⟩
  | zip x y =>
    obtain ⟨a, b, h1, h2, rfl⟩ := r
    simp only [itemAt] at e
    split at e
    · rename_i l r e1 e2
      obtain ⟨a', xs, h, q, z, p⟩ := seqL_ok g h1 e1
      cases h
      obtain ⟨b', ys, h, q', z', p'⟩ := seqL_ok g h2 e2
      cases h
      simp only [Option.some.injEq] at e
      split at e
      · rename_i wa wb g1 g2
        cases e
        obtain ⟨v, e3, e4⟩ := pget p g1
        obtain ⟨v', e3', e4'⟩ := pget p' g2
        refine ⟨⟨xs, ys, v, v', q, q', e3, e3'⟩, fun x H' y => ?_⟩
        obtain ⟨T, x', z', y1, y2, y3, y4, y5⟩ := y
        have := y4 xs q
        rw [e3] at this
        cases this
        have := y5 ys q'
        rw [e3'] at this
        cases this
        exact ⟨T, _, _, y1, y2, y3, e4, e4'⟩
      · cases e
    · cases e
  | zips t1 t2 x y =>
    obtain ⟨a, b, h1, h2, rfl⟩ := r
    simp only [itemAt] at e
    split at e
    · rename_i l r e1 e2
      split at e
      · obtain ⟨a', xs, h, q, z, p⟩ := seqB_ok g h1 e1
        cases h
        obtain ⟨b', ys, h, q', z', p'⟩ := seqB_ok g h2 e2
        cases h
        simp only [Option.some.injEq] at e
        split at e
        · rename_i wa wb g1 g2
          cases e
          obtain ⟨v, e3, e4⟩ := pget p g1
          obtain ⟨v', e3', e4'⟩ := pget p' g2
          refine ⟨⟨xs, ys, v, v', q, q', e3, e3'⟩, ?_⟩
          rintro x H' ⟨T, x', z', y1, y2, y3, y4, y5⟩
          have := y4 xs q
          rw [e3] at this
          cases this
          have := y5 ys q'
          rw [e3'] at this
          cases this
          exact ⟨T, _, _, y1, y2, y3, e4, e4'⟩
        · cases e
      · cases e
    · cases e
  | vals n =>
    obtain ⟨a, od, kv, h1, h2, rfl⟩ := r
    simp only [itemAt, Option.map_eq_some_iff] at e
    obtain ⟨l, e1, p0, e2, rfl⟩ := e
    obtain ⟨_, od', kv', h3, p⟩ := lkd_ok g h1 e1
    rw [h2] at h3
    cases h3
    obtain ⟨v, e3, e4, e5⟩ := pget p e2
    refine ⟨⟨h2, (List.getElem?_eq_some_iff.mp e3).1⟩, ?_⟩
    rintro x H' ⟨rfl, k, y⟩
    rw [e3] at y
    cases y
    exact ⟨rfl, e5⟩
  | items n =>
    obtain ⟨a, od, kv, h1, h2, rfl⟩ := r
    simp only [itemAt, Option.map_eq_some_iff] at e
    obtain ⟨l, e1, p0, e2, rfl⟩ := e
    obtain ⟨_, od', kv', h3, p⟩ := lkd_ok g h1 e1
    rw [h2] at h3
    cases h3
    obtain ⟨v, e3, e4, e5⟩ := pget p e2
    refine ⟨⟨h2, (List.getElem?_eq_some_iff.mp e3).1⟩, ?_⟩
    rintro x H' ⟨T, k, u, y, rfl, hT, rfl⟩
    rw [e3] at y
    cases y
    refine ⟨T, _, _, rfl, hT, rfl, ?_, e5⟩
    simp only at e4
    rw [e4]
    show At G.K F (kV k) (keyD k)
    cases k
    · exact At.int _
    · exact At.str _
theorem sets_ok {P : L2.St → Hp → Prop} : ∀ {is : List Nat} {ws : List W} {vs : List V} {ρ ρ' : Rho} {σ : L2.St}, setIs is ws ρ = some ρ' → WRs G ι F ws vs → ER G ι F ρ σ →
    (∀ σ', ER G ι F ρ' σ' → (∀ own : List Nat, (is.all fun i => decide (i ∈ own)) = true → L2.wipe σ' own = L2.wipe σ own) → P σ' H) → rdTgs is vs σ H P ∧ vs.length = is.length
  | [], [], _, ρ, ρ', σ, e, .nil, r, k => by
    cases e
    exact ⟨⟨rfl, k σ r fun _ _ => rfl⟩, rfl⟩
  | i :: is, w :: ws, _, ρ, ρ', σ, e, .cons h t, r, k => by
    have e' : setIs is ws (ρ.set i (some w)) = some ρ' := e
    have z := sets_ok (P := P) e' t (r.set i h) (fun σ' r' q => k σ' r' fun own ho => by
      rw [List.all_cons, Bool.and_eq_true] at ho
      rw [q own ho.2, wipe_set (of_decide_eq_true ho.1)])
    exact ⟨⟨_, _, rfl, z.1⟩, by rw [List.length_cons, List.length_cons, z.2]⟩
  | [], _ :: _, _, _, _, _, e, _, _, _ => by cases e
  | _ :: _, [], _, _, _, _, e, _, _, _ => by cases e
theorem bind_ok {tg : MT} {it : IW} {x : V} {P : L2.St → Hp → Prop} (g : GoodS G ι F S H) (r : ItemR G ι F H it x H') (e : bindT S tg it ρ = some ρ') (er : ER G ι F ρ σ)
    (k : ∀ σ', ER G ι F ρ' σ' → GoodS G ι F S H' → Le ι F H ι F H' → (∀ own, tgIn tg own = true → L2.wipe σ' own = L2.wipe σ own) → P σ' H') : rdTg G.K tg x σ H' P := by
  unfold bindT at e
  split at e
  · rename_i i w
    cases e
    obtain ⟨rfl, h⟩ := r
    exact k _ (er.set i h) g (Le.refl ..) fun own ho => wipe_set (of_decide_eq_true ho)
  · rename_i is x1 x2
    obtain ⟨T, v1, v2, rfl, hT, rfl, q1, q2⟩ := r
    obtain ⟨f1, f2⟩ := g.free hT
    have g' := g.other (u := .tup [v1, v2]) f1 f2
    have l' := (Le.refl ι F H).other (u := .tup [v1, v2]) hT
    obtain ⟨z1, z2⟩ := sets_ok (H := upd H T (.tup [v1, v2])) (P := P) e (.cons q1 (.cons q2 .nil)) er (fun σ' r' q => k σ' r' g' l' q)
    exact ⟨T, [v1, v2], rfl, .inl (.inl upd_same), z2, z1⟩
  · rename_i is w
    obtain ⟨rfl, h⟩ := r
    split at e
    · rename_i ws hs
      obtain ⟨a, xs, rfl, q, z, p⟩ := seqT_ok g h hs
      obtain ⟨z1, z2⟩ := sets_ok (P := P) e p er (fun σ' r' q => k σ' r' g (Le.refl ..) q)
      exact ⟨a, xs, rfl, q, z2, z1⟩
    · cases e
  · cases e
end
end MP
namespace MP
open PySem L2 PyProof.Rows PySem.Spec
abbrev W0 : WX := fun _ _ _ _ => False
/-- a reading keeps what the reckoner reckons -/
def Snd {α β : Type} (G : Gv) (rel : List Addr → Hp → α → β → Prop) (Wx : WX) (t : L2.St → Hp → (β → Hp → Prop) → Prop) (ev : Rho → Sto → R α) : Prop :=
  ∀ (ι : List Addr) (F : Hp) (S : Sto) (H : Hp) (ρ : Rho) (σ : L2.St) (Q : β → Hp → Prop), GoodS G ι F S H → ER G ι F ρ σ → Post G rel (WE Wx σ) ι F H (ev ρ S) Q → t σ H Q
/-- calls keep what the reckoner reckons; the constants are what they are -/
structure Glue (G : Gv) (Fv : Nat → List W → Sto → R W) (gd : Gd) : Prop where
  fn : ∀ f ws vs ι F S H Q E, GoodS G ι F S H → WRs G ι F ws vs → Post G (RE G) E ι F H (Fv f ws S) Q → G.sp f vs H Q E
  gl : ∀ i ι F, WR G ι F (gd.v i) (G.gv i)
  gd : GdOk G.toGb gd
structure AllE (G : Gv) (Fv : Nat → List W → Sto → R W) (gd : Gd) (n : Nat) : Prop where
  e : ∀ m : ME, sizeOf m < n → ∀ Wx, Snd G (RE G) Wx (rdE G Wx m) (evE Fv gd m)
  es : ∀ m : MEs, sizeOf m < n → ∀ Wx, Snd G (REs G) Wx (rdEs G Wx m) (evEs Fv gd m)
  o : ∀ m : MO, sizeOf m < n → ∀ Wx, Snd G REq Wx (rdO G Wx m) (evO Fv gd m)
  f : ∀ m : MO, sizeOf m < n → ∀ Wx, Snd G REq Wx (rdIf G Wx m) (evIf Fv gd m)
  t : ∀ m : ME, sizeOf m < n → ∀ Wx, Snd G REq Wx (rdT G Wx m) (evT Fv gd m)
section
variable {G : Gv} {Fv : Nat → List W → Sto → R W} {gd : Gd} {n : Nat}
theorem tru_post {E : XK} {ι : List Addr} {F H : Hp} {S : Sto} {x : W} {v : V} {Q : Bool → Hp → Prop} (g : GoodS G ι F S H) (r : WR G ι F x v) (h : Post G REq E ι F H (match tru S x with | some k => (.ok k S : R Bool) | none => .bad) Q) : ∃ k, TruV G.K v H k ∧ Q k H := by
  split at h
  · rename_i k e
    exact ⟨k, tru_ok g r e, Post.here h g rfl⟩
  · exact h.elim
theorem snd_tru {Wx : WX} {t : TE} {ev : Rho → Sto → R W} (h : Snd G (RE G) Wx t ev) : Snd G REq Wx (tTru G.K t) (fun ρ S => (ev ρ S).bind fun w S => match tru S w with | some k => .ok k S | none => .bad) := by
  intro ι F S H ρ σ Q g e q
  exact h ι F S H ρ σ _ g e (q.bind fun w S1 ι1 F1 H1 v l1 g1 r1 _ h1 => tru_post g1 r1 h1)
theorem snd_bin {Wx : WX} {ta tb : TE} {ea eb : Rho → Sto → R W} {r : R2} {f : W → W → Sto → R W} (ha : Snd G (RE G) Wx ta ea) (hb : Snd G (RE G) Wx tb eb)
    (hr : ∀ ι F S H x y v u Q E, GoodS G ι F S H → WR G ι F x v → WR G ι F y u → Post G (RE G) E ι F H (f x y S) Q → r v u H Q) :
    Snd G (RE G) Wx (tOp r ta tb) (fun ρ S => (ea ρ S).bind fun x S => (eb ρ S).bind fun y S => f x y S) := by
  intro ι F S H ρ σ Q g e q
  refine ha ι F S H ρ σ _ g e (q.bind fun x S1 ι1 F1 H1 v l1 g1 r1 _ h1 => ?_)
  refine hb ι1 F1 S1 H1 ρ σ _ g1 (e.le l1) (h1.bind fun y S2 ι2 F2 H2 u l2 g2 r2 _ h2 => ?_)
  exact hr _ _ _ _ _ _ _ _ _ _ g2 (r1.le l2) r2 h2
theorem post_tt {E : XK} {ι : List Addr} {F H : Hp} {S : Sto} {w : W} {v : V} {Q : Bool → Hp → Prop} (g : GoodS G ι F S H) (r : WR G ι F w v) (h : Post G REq E ι F H (match w with | .d (.bool k) => (.ok k S : R Bool) | _ => .bad) Q) : ∃ k, v = .bl k ∧ Q k H := by
  split at h
  · cases inv_bl r
    exact ⟨_, rfl, Post.here h g rfl⟩
  · exact h.elim
theorem snd_test {Wx : WX} {t : TE} {ev : Rho → Sto → R W} (h : Snd G (RE G) Wx t ev) : Snd G REq Wx (tTest t) (fun ρ S => (ev ρ S).bind fun w S => match w with | .d (.bool k) => .ok k S | _ => .bad) := by
  intro ι F S H ρ σ Q g e q
  exact h ι F S H ρ σ _ g e (q.bind fun w S1 ι1 F1 H1 v l1 g1 r1 _ h1 => post_tt g1 r1 h1)
theorem bind_assoc {α β γ : Type} (r : R α) (f : α → Sto → R β) (g : β → Sto → R γ) : (r.bind f).bind g = r.bind fun a S => (f a S).bind g := by cases r <;> rfl
theorem snd_chain {Wx : WX} {ta tb tc : TE} {ea eb ec : Rho → Sto → R W} {o o2 : Op2} (ha : Snd G (RE G) Wx ta ea) (hb : Snd G (RE G) Wx tb eb) (hc : Snd G (RE G) Wx tc ec) :
    Snd G (RE G) Wx (tChain (r2 G.K o) (r2 G.K o2) ta tb tc) (fun ρ S => (ea ρ S).bind fun x S => (eb ρ S).bind fun y S => (op2 o false x y S).bind fun k S => match k with
    | .d (.bool true) => (ec ρ S).bind fun z S => op2 o2 false y z S
    | .d (.bool false) => .ok (.d (.bool false)) S
    | _ => .bad) := by
  intro ι F S H ρ σ Q g e q
  refine ha ι F S H ρ σ _ g e (q.bind fun x S1 ι1 F1 H1 v l1 g1 r1 _ h1 => ?_)
  refine hb ι1 F1 S1 H1 ρ σ _ g1 (e.le l1) (h1.bind fun y S2 ι2 F2 H2 u l2 g2 r2 _ h2 => ?_)
  refine op2_ok g2 (r1.le l2) r2 (h2.bind fun k S3 ι3 F3 H3 z l3 g3 r3 _ h3 => ?_)
  split at h3
  · cases inv_bl r3
    refine ⟨true, rfl, ?_⟩
    rw [if_pos rfl]
    refine hc ι3 F3 S3 H3 ρ σ _ g3 (((e.le l1).le l2).le l3) (h3.bind fun z S4 ι4 F4 H4 z' l4 g4 r4 _ h4 => ?_)
    exact op2_ok g4 ((r2.le l3).le l4) r4 h4
  · cases inv_bl r3
    exact ⟨false, rfl, by rw [if_neg Bool.false_ne_true]; exact hereB h3 g3⟩
  · exact h3.elim
def rVal (K : PySem.W.Frag) : V → Hp → VK → Prop := fun x H1 Q => ∃ a C d v, x = .ref a ∧ H1 a = some (MPX.exo a C (some d)) ∧ H1 d = some (MPX.exd d [("value", v)]) ∧ XfC K C ∧ PySem.W.findIn K (.ref C) "value" = some none ∧ Q v H1
theorem val_ok (Z : Glue G Fv gd) {E : XK} {ι : List Addr} {F H : Hp} {S : Sto} {x : W} {v : V} {Q : VK} (g : GoodS G ι F S H) (r : WR G ι F x v) (h : Post G (RE G) E ι F H (valW gd x S) Q) : rVal G.K v H Q := by
  unfold valW at h
  split at h
  · rename_i c w
    split at h
    · rename_i hc
      rw [Bool.and_eq_true] at hc
      have hv : G.hv c = true := by rw [← Z.gd.hv]; exact hc.1
      obtain ⟨a, rfl, q⟩ := r
      rw [if_pos hv] at q
      obtain ⟨d, y, h1, h2, h3⟩ := q
      obtain ⟨e1, e2, _⟩ := Z.gd.ex c hc.2
      obtain ⟨e3, e4⟩ := e2 hv
      exact ⟨a, _, d, y, rfl, g.ex _ _ h1, g.ex _ _ h2, e3, e4, Post.here h g h3⟩
    · exact h.elim
  · exact h.elim
theorem ins_ok {ι : List Addr} {F H : Hp} {S : Sto} {x : W} {v : V} {c : Nat} {fs : List (Str × W)} (g : GoodS G ι F S H) (r : WR G ι F x v) (e : insW S c x = some fs) : ∃ n a dx kv, x = .ref n ∧ v = .ref a ∧ ι[n]? = some a ∧ S[n]? = some (.ins c fs) ∧ F a = none ∧ H a = some (.ins (G.co c) dx kv) ∧ KR G ι F fs kv := by
  unfold insW at e
  split at e
  · rename_i n
    obtain ⟨a, h1, rfl⟩ := r
    split at e
    · rename_i c' fs' hs
      split at e
      · rename_i hc
        subst hc
        cases e
        obtain ⟨f, dx, kv, h2, h3⟩ := g.obj n _ a hs h1
        exact ⟨n, a, dx, kv, rfl, rfl, h1, hs, f, h2, h3⟩
      · cases e
    · cases e
  · cases e
theorem kr_look {ι : List Addr} {F : Hp} {x : Str} : ∀ {fs : List (Str × W)} {kv : List (Str × V)}, KR G ι F fs kv → (fs.lookup x = none ∧ kv.lookup x = none) ∨ ∃ w v, fs.lookup x = some w ∧ kv.lookup x = some v ∧ WR G ι F w v
  | [], _, .nil => .inl ⟨rfl, rfl⟩
  | (y, w) :: r, _, .cons (b := kv0) h t => by
    obtain ⟨y', v⟩ := kv0
    obtain ⟨h1, h2⟩ := h
    simp only at h1 h2
    subst h1
    rw [List.lookup_cons, List.lookup_cons]
    cases x == y with
    | true => exact .inr ⟨w, v, rfl, rfl, h2⟩
    | false => exact kr_look t
theorem kd_ok (Z : Glue G Fv gd) {ι : List Addr} {F : Hp} {x : W} {v : V} {i : Nat} {o : Option PyData} (r : WR G ι F x v) (h : kdGet gd i x = some o) : ∃ z : Str, v = .str z ∧ (o = none → PySem.W.nsIn G.K (G.kd i) z = some none) ∧ ∀ p, o = some p → ∃ u w, PySem.W.nsIn G.K (G.kd i) z = some (some u) ∧ RelV w u ∧ ∀ F, At G.K F w p := by
  unfold kdGet at h
  split at h
  · cases inv_str r
    split at h
    · rename_i l hl
      cases h
      obtain ⟨k1, k2⟩ := Z.gd.kd i l hl _
      exact ⟨_, rfl, k1, k2⟩
    · cases h
  · cases h
theorem gin_ok (Z : Glue G Fv gd) {ι : List Addr} {F H : Hp} {x : W} {v : V} {neg b : Bool} {i : Nat} {Q : VK} (r : WR G ι F x v) (h : ginB gd neg i x = some b) (q : Q (.bl b) H) : rGin G.K (G.kd i) neg v (.ref (G.kd i)) H Q := by
  unfold ginB at h
  split at h
  · rename_i o ho
    cases h
    obtain ⟨z, rfl, k1, k2⟩ := kd_ok Z r ho
    cases o with
    | none => exact ⟨z, none, rfl, rfl, k1 rfl, q⟩
    | some p =>
      obtain ⟨u, w, h1, _, _⟩ := k2 p rfl
      exact ⟨z, some u, rfl, rfl, h1, q⟩
  · cases h
theorem gix_ok (Z : Glue G Fv gd) {E : XK} {ι : List Addr} {F H : Hp} {S : Sto} {x : W} {v : V} {i : Nat} {p : PyData} {Q : VK} (g : GoodS G ι F S H) (r : WR G ι F x v) (h : gixW gd i x = some p) (q : Post G (RE G) E ι F H (.ok (.d p) S) Q) : rGix G.K (G.kd i) (.ref (G.kd i)) v H Q := by
  unfold gixW at h
  split at h
  · rename_i p' ho
    cases h
    obtain ⟨z, rfl, k1, k2⟩ := kd_ok Z r ho
    obtain ⟨u, w, h1, h2, h3⟩ := k2 _ rfl
    exact ⟨z, u, w, rfl, rfl, h1, h2, Post.here q g (h3 F)⟩
  · cases h
/-- a call of a method -/
theorem meth_ok (Z : Glue G Fv gd) (A : AllE G Fv gd n) {β : Type} {rel : List Addr → Hp → β → β → Prop} {c f : Nat} {m : Str} {o : ME} {as : MEs} (h1 : sizeOf o < n) (h2 : sizeOf as < n) {Wx : WX} {ι : List Addr} {F H : Hp} {S : Sto} {ρ : Rho} {σ : L2.St} {Q : VK} (g : GoodS G ι F S H) (e : ER G ι F ρ σ)
    (q : Post G (RE G) (WE Wx σ) ι F H ((evE Fv gd o ρ S).bind fun x S => (match insW S c x with | some fs => if (fs.lookup m).isNone then (evEs Fv gd as ρ S).bind fun ws S => Fv f (x :: ws) S else .bad | none => .bad)) Q) : MPX.tMethS (G.co c) m (G.sp f) (WE Wx) (rdE G Wx o) (rdEs G Wx as) σ H Q := by
  refine A.e o h1 Wx ι F S H ρ σ _ g e (q.bind fun x S1 ι1 F1 H1 v l1 g1 r1 _ k1 => ?_)
  split at k1
  · rename_i fs hfs
    split at k1
    · rename_i hm
      obtain ⟨nn, a, dx, kv, rfl, rfl, ha, hs, _, hH, hK⟩ := ins_ok g1 r1 hfs
      refine ⟨a, dx, kv, rfl, hH, ?_, ?_⟩
      · rcases kr_look (x := m) hK with ⟨_, z⟩ | ⟨w, v, z, _⟩
        · exact z
        · rw [z] at hm; cases hm
      · refine A.es as h2 Wx ι1 F1 S1 H1 ρ σ _ g1 (e.le l1) (k1.bind fun ws S2 ι2 F2 H2 vs l2 g2 r2 _ k2 => ?_)
        exact Z.fn _ _ _ _ _ _ _ _ _ g2 (.cons (r1.le l2) r2) k2
    · exact k1.elim
  · exact k1.elim
theorem fld_ok (A : AllE G Fv gd n) {c : Nat} {x : Str} {o : ME} (h1 : sizeOf o < n) {Wx : WX} {ι : List Addr} {F H : Hp} {S : Sto} {ρ : Rho} {σ : L2.St} {Q : VK} (g : GoodS G ι F S H) (e : ER G ι F ρ σ)
    (q : Post G (RE G) (WE Wx σ) ι F H ((evE Fv gd o ρ S).bind fun y S => (match insW S c y with | some fs => (match fs.lookup x with | some w => .ok w S | none => .bad) | none => .bad)) Q) : tFldC (G.co c) x (rdE G Wx o) σ H Q := by
  refine A.e o h1 Wx ι F S H ρ σ _ g e (q.bind fun y S1 ι1 F1 H1 v l1 g1 r1 _ k1 => ?_)
  split at k1
  · rename_i fs hfs
    split at k1
    · rename_i w hw
      obtain ⟨nn, a, dx, kv, rfl, rfl, ha, hs, _, hH, hK⟩ := ins_ok g1 r1 hfs
      rcases kr_look (x := x) hK with ⟨z, _⟩ | ⟨w', v, z, z2, rw'⟩
      · rw [hw] at z; cases z
      · rw [hw] at z
        cases z
        exact ⟨a, dx, kv, v, rfl, hH, z2, Post.here k1 g1 rw'⟩
    · exact k1.elim
  · exact k1.elim
/-! a locked dict -/
theorem unlk_ok {ι ι' : List Addr} {F H F' H' : Hp} {S' S3 : Sto} {n : Nat} {a : Addr} {od : Obj} {kv : List (Key × V)} (ha : ι[n]? = some a) (hH : H a = some (.dK kv)) (l : Le ι F (upd H a (.frz od (.dK kv))) ι' F' H') (g : GoodS G ι' F' S' H') (u : unlk n S' = some S3) :
    H' a = some (.frz od (.dK kv)) ∧ GoodS G ι' F' S3 (upd H' a (.dK kv)) ∧ Le ι F H ι' F' (upd H' a (.dK kv)) := by
  have hf : H' a = some (.frz od (.dK kv)) := l.frz a _ _ upd_same
  have mem : a ∈ ι := List.mem_of_getElem? ha
  have nf : ∀ o v, HO.dK kv ≠ .frz o v := fun o v z => by cases z
  refine ⟨hf, ?_, ((l.locked mem hH nf).unlocked mem hH nf)⟩
  unfold unlk at u
  split at u
  · rename_i kvs hk
    cases u
    obtain ⟨f0, od', kv', e1, k⟩ := lkd_ok g (pre_get l.pre ha) hk
    rw [hf] at e1
    cases e1
    have h0 : S'[n]? = some (.lk kvs) := by
      unfold lkd at hk
      split at hk
      · rename_i l hs; cases hk; exact hs
      · cases hk
    exact g.put h0 (pre_get l.pre ha) f0 ⟨f0, kv, upd_same, k⟩
  · cases u
theorem lkOf_ok {ι : List Addr} {F H : Hp} {S : Sto} {k : IK} {src : MEs} {ρ : Rho} {σ : L2.St} {n : Nat} {kvs : List (Key × W)} (g : GoodS G ι F S H) (e : ER G ι F ρ σ) (h : lkOf k src ρ S = some (n, kvs)) : ∃ a kv, ι[n]? = some a ∧ H a = some (.dK kv) ∧
    ∀ od, GoodS G ι F (S.set n (.lk kvs)) (upd H a (.frz od (.dK kv))) ∧ Le ι F H ι F (upd H a (.frz od (.dK kv))) := by
  unfold lkOf at h
  split at h
  · split at h
    · rename_i m hm
      split at h
      · rename_i l hs
        cases h
        obtain ⟨v, _, a, h1, rfl⟩ := e.get hm
        obtain ⟨f, kv, h2, h3⟩ := g.obj _ _ a hs h1
        refine ⟨a, kv, h1, h2, fun od => g.write hs h1 f (fun o u z => by rw [h2] at z; cases z) ⟨f, od, kv, upd_same, h3⟩⟩
      · cases h
    · cases h
  · cases h
theorem lock_ok {E : XK} {k : IK} {src : MEs} {ρ : Rho} {σ : L2.St} {t : TE} {f : Sto → R W} {ι : List Addr} {F H : Hp} {S : Sto} {Q : VK} (g : GoodS G ι F S H) (e : ER G ι F ρ σ) (q : Post G (RE G) E ι F H (inLk k src ρ S f) Q)
    (hk : ∀ (F H : Hp) (S : Sto) (Q : VK), GoodS G ι F S H → ER G ι F ρ σ → Post G (RE G) E ι F H (f S) Q → t σ H Q) : lkE k t σ H Q := by
  unfold inLk at q
  unfold lkE
  split
  · rename_i hl
    rw [if_pos hl] at q
    split at q
    · rename_i n kvs hn
      obtain ⟨a, kv, ha, hH, lk⟩ := lkOf_ok g e hn
      refine ⟨a, .dK kv, hH, by first | trivial | simp [Mut], fun od => ?_⟩
      obtain ⟨g1, l1⟩ := lk od
      refine hk F _ _ _ g1 e ?_
      unfold R.unlk at q
      cases hr : f (S.set n (.lk kvs)) with
      | ok w S2 =>
        rw [hr] at q
        change Post G (RE G) E ι F H (match unlk n S2 with | some S' => .ok w S' | none => .bad) Q at q
        intro ι' F' H' v l' g' r'
        split at q
        · rename_i S3 u
          obtain ⟨z1, z2, z3⟩ := unlk_ok ha hH l' g' u
          exact ⟨z1, q ι' F' _ v z3 z2 r'⟩
        · exact q.elim
      | exc c w S2 =>
        rw [hr] at q
        intro ι' F' H' d l' g' x'
        exact q ι' F' H' d (l'.locked (List.mem_of_getElem? ha) hH (fun o v z => by cases z)) g' x'
      | bad => rw [hr] at q; exact q
    · exact q.elim
  · rename_i hl
    rw [if_neg hl] at q
    exact hk F H S Q g e q
/-! ### the step -/
theorem seqLT_ok {ι : List Addr} {F H : Hp} {S : Sto} {x : W} {v : V} {ws : List W} (g : GoodS G ι F S H) (r : WR G ι F x v) (e : seqLT S x = some ws) : ∃ a xs, v = .ref a ∧ (SqT G.K H a xs ∨ SqL G.K H a xs) ∧ WRs G ι F ws xs := by
  unfold seqLT at e
  split at e
  · rename_i l h
    cases e
    obtain ⟨a, xs, h1, h2, _, h3⟩ := seqL_ok g r h
    exact ⟨a, xs, h1, .inr h2, h3⟩
  · obtain ⟨a, xs, h1, h2, _, h3⟩ := seqT_ok g r e
    exact ⟨a, xs, h1, .inl h2, h3⟩
theorem es_step (A : AllE G Fv gd n) (m : MEs) (hs : sizeOf m < n + 1) (Wx : WX) : Snd G (REs G) Wx (rdEs G Wx m) (evEs Fv gd m) := by
  intro ι F S H ρ σ Q g e q
  cases m with
  | nil => exact Post.here q g .nil
  | cons a r =>
    simp at hs
    unfold evEs at q
    refine A.e a (by omega) Wx ι F S H ρ σ _ g e (q.bind fun x S1 ι1 F1 H1 v l1 g1 r1 _ h1 => ?_)
    refine A.es r (by omega) Wx ι1 F1 S1 H1 ρ σ _ g1 (e.le l1) (h1.bind fun l S2 ι2 F2 H2 vs l2 g2 r2 _ h2 => ?_)
    exact Post.here h2 g2 (.cons (r1.le l2) r2)
  | star a r =>
    simp at hs
    unfold evEs at q
    refine A.e a (by omega) Wx ι F S H ρ σ _ g e (q.bind fun x S1 ι1 F1 H1 v l1 g1 r1 _ h1 => ?_)
    split at h1
    · rename_i ws e1
      obtain ⟨p, xs, rfl, hq, hp⟩ := seqLT_ok g1 r1 e1
      refine ⟨p, xs, rfl, hq, ?_⟩
      refine A.es r (by omega) Wx ι1 F1 S1 H1 ρ σ _ g1 (e.le l1) (h1.bind fun l S2 ι2 F2 H2 vs l2 g2 r2 _ h2 => ?_)
      exact Post.here h2 g2 (papp (WRs.up l2.pre l2.ex hp) r2)
    · exact h1.elim
theorem o_step (A : AllE G Fv gd n) (m : MO) (hs : sizeOf m < n + 1) (Wx : WX) : Snd G REq Wx (rdO G Wx m) (evO Fv gd m) := by
  intro ι F S H ρ σ Q g e q
  cases m with
  | none => exact Post.here q g rfl
  | some a =>
    simp at hs
    unfold evO at q
    refine A.e a (by omega) Wx ι F S H ρ σ _ g e (q.bind fun x S1 ι1 F1 H1 v l1 g1 r1 _ h1 => ?_)
    split at h1
    · cases inv_int r1
      exact ⟨_, rfl, Post.here h1 g1 rfl⟩
    · exact h1.elim
theorem f_step (A : AllE G Fv gd n) (m : MO) (hs : sizeOf m < n + 1) (Wx : WX) : Snd G REq Wx (rdIf G Wx m) (evIf Fv gd m) := by
  intro ι F S H ρ σ Q g e q
  cases m with
  | none => exact Post.here q g rfl
  | some a =>
    simp at hs
    exact A.t a (by omega) Wx ι F S H ρ σ Q g e q
theorem t_step (Z : Glue G Fv gd) (A : AllE G Fv gd n) (m : ME) (hs : sizeOf m < n + 1) (Wx : WX) : Snd G REq Wx (rdT G Wx m) (evT Fv gd m) := by
  intro ι F S H ρ σ Q g e q
  cases m with
  | and a b =>
    simp at hs
    unfold evT at q
    refine A.t a (by omega) Wx ι F S H ρ σ _ g e (q.bind fun k S1 ι1 F1 H1 k' l1 g1 r1 _ h1 => ?_)
    cases (show k = k' from r1)
    cases k with
    | true => rw [if_pos rfl] at h1 ⊢; exact A.t b (by omega) Wx ι1 F1 S1 H1 ρ σ _ g1 (e.le l1) h1
    | false => rw [if_neg Bool.false_ne_true] at h1 ⊢; exact Post.here h1 g1 rfl
  | or a b =>
    simp at hs
    unfold evT at q
    refine A.t a (by omega) Wx ι F S H ρ σ _ g e (q.bind fun k S1 ι1 F1 H1 k' l1 g1 r1 _ h1 => ?_)
    cases (show k = k' from r1)
    cases k with
    | true => rw [if_pos rfl] at h1 ⊢; exact Post.here h1 g1 rfl
    | false => rw [if_neg Bool.false_ne_true] at h1 ⊢; exact A.t b (by omega) Wx ι1 F1 S1 H1 ρ σ _ g1 (e.le l1) h1
  | not a =>
    simp at hs
    unfold evT at q
    refine A.t a (by omega) Wx ι F S H ρ σ _ g e (q.bind fun k S1 ι1 F1 H1 k' l1 g1 r1 _ h1 => ?_)
    cases (show k = k' from r1)
    exact Post.here h1 g1 rfl
  | op o mm a b =>
    simp at hs
    have hb := snd_bin (A.e a (by omega) Wx) (A.e b (by omega) Wx) (r := r2 G.K o) (f := op2 o mm) (fun ι F S H x y v u Q E g r1 r2 h => op2_ok g r1 r2 h)
    unfold evT at q
    unfold rdT
    split
    · rename_i hc
      simp only [hc, if_true] at q
      refine snd_test hb ι F S H ρ σ Q g e ?_
      simp only [bind_assoc]
      exact q
    · rename_i hc
      simp only [hc] at q
      refine snd_tru hb ι F S H ρ σ Q g e ?_
      simp only [bind_assoc]
      exact q
  | chain o o2 a b c =>
    simp at hs
    unfold evT at q
    unfold rdT
    refine snd_test (snd_chain (A.e a (by omega) Wx) (A.e b (by omega) Wx) (A.e c (by omega) Wx)) ι F S H ρ σ Q g e ?_
    refine cast (congrArg (fun r => Post G REq (WE Wx σ) ι F H r Q) ?_) q
    simp only [bind_assoc]
    congr 1; funext x S; congr 1; funext y S; congr 1; funext k S
    cases k with
    | d x => cases x with
      | bool b => cases b with
        | true => exact (bind_assoc _ _ _).symm
        | false => rfl
      | _ => rfl
    | _ => rfl
  | var i =>
    unfold evT at q
    split at q
    · rename_i w hw
      obtain ⟨v, h1, h2⟩ := e.get hw
      exact ⟨v, h1, tru_post g h2 q⟩
    · exact q.elim
  | cst c =>
    have r : WR G ι F (.d c.D) c.v := by cases c <;> constructor
    exact tru_post g r q
  | glb i => exact tru_post g (Z.gl i ι F) q
  | ix a b =>
    simp at hs
    unfold evT at q
    refine snd_tru (snd_bin (A.e a (by omega) Wx) (A.e b (by omega) Wx) (r := rIxA G.K) (f := ixW) (fun ι F S H x y v u Q E g r1 r2 h => ix_ok g r1 r2 h)) ι F S H ρ σ Q g e ?_
    simp only [bind_assoc]
    exact q
  | bi b mm as =>
    simp at hs
    unfold evT at q
    refine A.es as (by omega) Wx ι F S H ρ σ _ g e (q.bind fun ws S1 ι1 F1 H1 vs l1 g1 r1 _ h1 => ?_)
    exact bi_okW Z.gd g1 r1 (h1.bind fun w S2 ι2 F2 H2 v l2 g2 r2 _ h2 => tru_post g2 r2 h2)
  | call f as =>
    simp at hs
    unfold evT at q
    refine A.es as (by omega) Wx ι F S H ρ σ _ g e (q.bind fun ws S1 ι1 F1 H1 vs l1 g1 r1 _ h1 => ?_)
    exact Z.fn _ _ _ _ _ _ _ _ _ g1 r1 (h1.bind fun w S2 ι2 F2 H2 v l2 g2 r2 _ h2 => tru_post g2 r2 h2)
  | val a =>
    simp at hs
    unfold evT at q
    rw [bind_assoc] at q
    refine A.e a (by omega) Wx ι F S H ρ σ _ g e (q.bind fun x S1 ι1 F1 H1 v l1 g1 r1 _ h1 => ?_)
    exact val_ok (E := WE Wx σ) Z g1 r1 (h1.bind (rel := RE G.toGb) fun w S2 ι2 F2 H2 v l2 g2 r2 _ h2 => tru_post g2 r2 h2)
  | mk c as kw => cases as with
    | nil => exact q.elim
    | cons a r => exact q.elim
    | star a r => exact q.elim
  | bad => exact q.elim
  | gin neg a i =>
    simp at hs
    unfold evT at q
    refine A.e a (by omega) Wx ι F S H ρ σ _ g e (q.bind fun x S1 ι1 F1 H1 v l1 g1 r1 _ h1 => ?_)
    have key : ∀ Q', rGin G.K (G.kd i) neg v (.ref (G.kd i)) H1 Q' → tC (.ref (G.kd i)) σ H1 (fun y H2 => rGin G.K (G.kd i) neg v y H2 Q') := fun _ h => h
    refine key _ ?_
    split at h1
    · rename_i b hb
      exact gin_ok Z r1 hb ⟨_, rfl, Post.here h1 g1 rfl⟩
    · exact h1.elim
  | meth c f m o as =>
    simp at hs
    unfold evT at q
    refine meth_ok (rel := fun _ _ (a b : Unit) => True) Z A (by omega) (by omega) g e (Wx := Wx) (S := S) (ρ := ρ) ?_
    revert q
    cases evE Fv gd o ρ S with
    | ok x S1 =>
      show Post _ _ _ _ _ _ (match insW S1 c x with | some fs => if (fs.lookup m).isNone = true then (evEs Fv gd as ρ S1).bind fun ws S => (Fv f (x :: ws) S).bind fun w S => (match tru S w with | some k => .ok k S | none => .bad) else .bad | none => .bad) _ →
        Post _ _ _ _ _ _ (match insW S1 c x with | some fs => if (fs.lookup m).isNone = true then (evEs Fv gd as ρ S1).bind fun ws S => Fv f (x :: ws) S else .bad | none => .bad) _
      intro q
      cases hi : insW S1 c x with
      | none => rw [hi] at q; exact q.elim
      | some fs =>
        rw [hi] at q
        simp only at q ⊢
        split at q
        · rename_i hm
          rw [if_pos hm]
          rw [← bind_assoc] at q
          exact q.bind fun w S2 ι2 F2 H2 v l2 g2 r2 _ h2 => tru_post g2 r2 h2
        · exact q.elim
    | exc c w S1 => exact fun q => q
    | bad => exact fun q => q
  | fld c x o =>
    simp at hs
    unfold evT at q
    refine fld_ok A (by omega) g e (Wx := Wx) (S := S) (ρ := ρ) ?_
    revert q
    cases evE Fv gd o ρ S with
    | ok y S1 =>
      show Post _ _ _ _ _ _ (match insW S1 c y with | some fs => (match fs.lookup x with | some w => (match tru S1 w with | some k => .ok k S1 | none => .bad) | none => .bad) | none => .bad) _ →
        Post _ _ _ _ _ _ (match insW S1 c y with | some fs => (match fs.lookup x with | some w => .ok w S1 | none => .bad) | none => .bad) _
      intro q
      cases hi : insW S1 c y with
      | none => rw [hi] at q; exact q.elim
      | some fs =>
        rw [hi] at q
        simp only at q ⊢
        cases hw : fs.lookup x with
        | none => rw [hw] at q; exact q.elim
        | some w =>
          rw [hw] at q
          simp only at q ⊢
          exact Post.bind (f := fun w S => match tru S w with | some k => .ok k S | none => .bad) (r := .ok w S1) q fun w S2 ι2 F2 H2 v l2 g2 r2 _ h2 => tru_post g2 r2 h2
    | exc c w S1 => exact fun q => q
    | bad => exact fun q => q
  | gix i a => exact q.elim
  | new c f as => exact q.elim
  | un u m a =>
    simp at hs
    unfold evT at q
    rw [bind_assoc] at q
    refine A.e a (by omega) Wx ι F S H ρ σ _ g e (q.bind fun x S1 ι1 F1 H1 v l1 g1 r1 _ h1 => ?_)
    exact u1_okW (E := WE Wx σ) g1 r1 (h1.bind (rel := RE G.toGb) fun w S2 ι2 F2 H2 v l2 g2 r2 _ h2 => tru_post g2 r2 h2)
  | dnew t => exact q.elim
  | dcomp key elt tg k src cond own => exact q.elim
  | eqX a b => exact q.elim
  | ife c a b => exact q.elim
  | ty t => exact q.elim
  | neg a => exact q.elim
  | tup es => exact q.elim
  | lst m es => exact q.elim
  | sl a lo hi => exact q.elim
  | mt k o as => exact q.elim
  | bits a => exact q.elim
  | comp m elt tg k src cond own => exact q.elim
end
end MP
namespace MP
open PySem L2 PyProof.Rows PySem.Spec
section
variable {G : Gv} {Fv : Nat → List W → Sto → R W} {gd : Gd} {n : Nat}
/-- what is wanted of the walked things' values -/
def PI0 (K : PySem.W.Frag) (R : It → Hp → Prop) : IK → List V → Hp → Prop
  | .list, [x] => fun H1 => (∃ a, x = .ref a ∧ (∃ xs, SqL K H1 a xs) ∧ R (Itl K a) H1) ∨ (∃ a, x = .ref a ∧ (∃ xs, SqT K H1 a xs) ∧ R (Itt K a) H1) ∨ ∃ z, x = .str z ∧ R (Its z) H1
  | .tup, [x] => fun H1 => ∃ a, x = .ref a ∧ (∃ xs, SqT K H1 a xs) ∧ R (Itt K a) H1
  | .range1, [x] => fun H1 => ∃ j : Int, [x] = [V.int j] ∧ -(2 ^ 62) ≤ j ∧ j < 2 ^ 62 ∧ R (Itr 0 j.toNat) H1
  | .range2, [x, y] => fun H1 => ∃ i j : Int, [x, y] = [V.int i, V.int j] ∧ (-(2 ^ 62) ≤ i ∧ i < 2 ^ 62 ∧ -(2 ^ 62) ≤ j ∧ j < 2 ^ 62) ∧ R (Itr i (j - i).toNat) H1
  | .enum, [x] => fun H1 => ∃ a xs, [x] = [V.ref a] ∧ SqL K H1 a xs ∧ R (Ite K a) H1
  | .zip, [x, y] => fun H1 => ∃ a b xs ys, [x, y] = [V.ref a, V.ref b] ∧ SqL K H1 a xs ∧ SqL K H1 b ys ∧ R (Itz K a b) H1
  | .zips, [x, y] => fun H1 => ∃ t1 t2 a b xs ys, [x, y] = [V.ref a, V.ref b] ∧ MPZ.sqV K t1 H1 a xs ∧ MPZ.sqV K t2 H1 b ys ∧ R (MPZ.Itzs K t1 t2 a b) H1
  | .vals, [x] => fun H1 => ∃ d o kvs, x = .ref d ∧ H1 d = some (.frz o (.dK kvs)) ∧ R (Itd d o kvs) H1
  | .items, [x] => fun H1 => ∃ d o kvs, x = .ref d ∧ H1 d = some (.frz o (.dK kvs)) ∧ R (Iti d o kvs) H1
  | _, _ => fun _ => False
theorem rdI_of {Wx : WX} {k : IK} {src : MEs} {R : It → Hp → Prop} {σ : L2.St} {H : Hp} (hs : shI k src = true) (h : rdEs G Wx src σ H (PI0 G.K R k)) : rdI G Wx k src σ H R := by
  unfold shI at hs
  split at hs
  · exact h
  · exact h
  · exact h
  · exact h
  · exact h
  · exact h
  · exact h
  · exact h
  · exact h
  · cases hs
theorem inRng_ok {n : Int} (h : inRng n = true) : -(2 ^ 62) ≤ n ∧ n < 2 ^ 62 := by
  unfold inRng at h
  simp only [Bool.and_eq_true, decide_eq_true_eq] at h
  omega
theorem seqK_B {S : Sto} {x : W} {t : Bool} {l : List W} (e : seqK S x = some (t, l)) : seqB t S x = some l := by
  unfold seqK at e
  split at e
  · rename_i l' h
    cases e
    exact h
  · split at e
    · rename_i l' h
      cases e
      exact h
    · cases e
theorem src_ok {ι : List Addr} {F H : Hp} {S : Sto} {k : IK} {ws : List W} {vs : List V} {sr : Src} {m : Nat} {R : It → Hp → Prop} (g : GoodS G ι F S H) (r : WRs G ι F ws vs) (e : srcOf k ws S = some (sr, m)) (h : ∀ J, SrcR G ι F H sr J → R J H) : PI0 G.K R k vs H := by
  unfold srcOf at e
  split at e
  · obtain ⟨v, rfl, r1⟩ := wrs1 r
    split at e
    · rename_i l e1
      cases e
      obtain ⟨a, xs, rfl, q, z, p⟩ := seqL_ok g r1 e1
      exact .inl ⟨a, rfl, ⟨xs, q⟩, h _ ⟨a, r1, rfl⟩⟩
    · split at e
      · rename_i l e1
        cases e
        obtain ⟨a, xs, rfl, q, z, p⟩ := seqT_ok g r1 e1
        exact .inr (.inl ⟨a, rfl, ⟨xs, q⟩, h _ ⟨a, r1, rfl⟩⟩)
      · split at e
        · cases inv_str r1
          cases e
          exact .inr (.inr ⟨_, rfl, h _ rfl⟩)
        · cases e
  · obtain ⟨v, rfl, r1⟩ := wrs1 r
    rw [Option.map_eq_some_iff] at e
    obtain ⟨l, e1, e2⟩ := e
    cases e2
    obtain ⟨a, xs, rfl, q, z, p⟩ := seqT_ok g r1 e1
    exact ⟨a, rfl, ⟨xs, q⟩, h _ ⟨a, r1, rfl⟩⟩
  · obtain ⟨v, rfl, r1⟩ := wrs1 r
    cases inv_int r1
    split at e
    · rename_i hr
      cases e
      obtain ⟨h1, h2⟩ := inRng_ok hr
      exact ⟨_, rfl, h1, h2, h _ rfl⟩
    · cases e
  · obtain ⟨v, v', rfl, r1, r2⟩ := wrs2 r
    cases inv_int r1; cases inv_int r2
    split at e
    · rename_i hr
      cases e
      rw [Bool.and_eq_true] at hr
      obtain ⟨h1, h2⟩ := inRng_ok hr.1
      obtain ⟨h3, h4⟩ := inRng_ok hr.2
      exact ⟨_, _, rfl, ⟨h1, h2, h3, h4⟩, h _ rfl⟩
    · cases e
  · obtain ⟨v, rfl, r1⟩ := wrs1 r
    rw [Option.map_eq_some_iff] at e
    obtain ⟨l, e1, e2⟩ := e
    cases e2
    obtain ⟨a, xs, rfl, q, z, p⟩ := seqL_ok g r1 e1
    exact ⟨a, xs, rfl, q, h _ ⟨a, r1, rfl⟩⟩
  · obtain ⟨v, v', rfl, r1, r2⟩ := wrs2 r
    split at e
    · rename_i l r e1 e2
      cases e
      obtain ⟨a, xs, rfl, q, z, p⟩ := seqL_ok g r1 e1
      obtain ⟨b, ys, rfl, q', z', p'⟩ := seqL_ok g r2 e2
      exact ⟨a, b, xs, ys, rfl, q, q', h _ ⟨a, b, r1, r2, rfl⟩⟩
    · cases e
  · obtain ⟨v, v', rfl, r1, r2⟩ := wrs2 r
    split at e
    · rename_i t1 l t2 r e1 e2
      split at e
      · cases e
        obtain ⟨a, xs, rfl, q, z, p⟩ := seqB_ok g r1 (seqK_B e1)
        obtain ⟨b, ys, rfl, q', z', p'⟩ := seqB_ok g r2 (seqK_B e2)
        exact ⟨t1, t2, a, b, xs, ys, rfl, q, q', h _ ⟨a, b, r1, r2, rfl⟩⟩
      · cases e
    · cases e
  · obtain ⟨v, rfl, r1⟩ := wrs1 r
    obtain ⟨a, ha, rfl⟩ := r1
    split at e
    · rename_i kvs hk
      cases e
      obtain ⟨_, od, kv, hH, _⟩ := lkd_ok g ha hk
      exact ⟨a, od, kv, rfl, hH, h _ ⟨a, od, kv, ha, hH, rfl⟩⟩
    · cases e
  · obtain ⟨v, rfl, r1⟩ := wrs1 r
    obtain ⟨a, ha, rfl⟩ := r1
    split at e
    · rename_i kvs hk
      cases e
      obtain ⟨_, od, kv, hH, _⟩ := lkd_ok g ha hk
      exact ⟨a, od, kv, rfl, hH, h _ ⟨a, od, kv, ha, hH, rfl⟩⟩
    · cases e
  · cases e
/-- the turns of a comprehension -/
theorem comp_ok {ι1 : List Addr} {F1 H1 : Hp} {S1 Sf : Sto} {sr : Src} {J : It} {tg : MT} {cond : MO} {elt : ME} {own : List Nat} {ρ : Rho} {σ : L2.St} {N : Nat} {total : List W} {m : Bool} {E : XK} {Q : VK} {f : IW → Sto → R (Option W)}
    (hf : f = fun it S => match bindT S tg it (wipeW ρ own) with
        | some ρ' => (evIf Fv gd cond ρ' S).bind fun b S => if b then (evE Fv gd elt ρ' S).bind fun w S => .ok (some w) S else .ok none S
        | none => .bad)
    (hc : Snd G REq W0 (rdIf G W0 cond) (evIf Fv gd cond)) (he : Snd G (RE G) W0 (rdE G W0 elt) (evE Fv gd elt)) (hN : N < lim) (ht : tgIn tg own = true)
    (g : GoodS G ι1 F1 S1 H1) (e : ER G ι1 F1 ρ σ) (rs : SrcR G ι1 F1 H1 sr J) (run : compGo sr f (N + 1) 0 S1 = .ok total Sf) (q : Post G (RE G) E ι1 F1 H1 (mkL m total Sf) Q) (D : Addr) (hD : H1 D = none) :
    ∃ Wv : Nat → Nat → Hp → Prop, (∃ m, Wv 0 m (upd H1 D (.lst []))) ∧ ∀ i m H, Wv i m H →
      (J.stop i H ∧ Q (.ref D) H) ∨ (J.go i H ∧ ∃ Nx : Hp → Prop, (∀ H', Nx H' → ∃ m', m' < m ∧ Wv (i + 1) m' H') ∧ ∀ x H', J.yld i H x H' → rdTg G.K tg x (L2.wipe σ own) H' fun σ2 H2 => L2.wipe σ2 own = L2.wipe σ own ∧ rdIf G W0 cond σ2 H2 fun b H3 =>
        if b = true then rdE G W0 elt σ2 H3 fun y H4 => ∃ acc, H4 D = some (.lst acc) ∧ acc.length < sizeLine ∧ Nx (upd H4 D (.lst (acc ++ [y]))) else Nx H3) := by
  let Wv : Nat → Nat → Hp → Prop := fun i fuel H => ∃ ι' F' S' l ys rest, Le ι1 F1 H1 ι' F' H ∧ GoodS G ι' F' S' H ∧ D ∉ ι' ∧ F' D = none ∧ H D = some (.lst ys) ∧ WRs G ι' F' l ys ∧ l.length ≤ i ∧ i + fuel = N + 1 ∧ compGo sr f fuel i S' = .ok rest Sf ∧ l ++ rest = total
  obtain ⟨d1, d2⟩ := g.free hD
  refine ⟨Wv, ⟨N + 1, ι1, F1, S1, [], [], total, (Le.refl _ _ _).other hD, g.other d1 d2, d1, d2, upd_same, .nil, Nat.zero_le _, by omega, run, rfl⟩, ?_⟩
  rintro i fuel H ⟨ι', F', S', l, ys, rest, le, g', n1, n2, hd, r, hl, hi, run', tot⟩
  cases fuel with
  | zero => cases run'
  | succ k =>
    unfold compGo at run'
    split at run'
    · rename_i st
      cases run'
      left
      rw [List.append_nil] at tot
      subst tot
      refine ⟨item_stop g' (rs.le le) st, adopt_ok g' le hD n1 n2 hd r ?_ q⟩
      rw [← r.length]
      exact lim_lt (by omega)
    · rename_i it st
      right
      obtain ⟨go, yl⟩ := item_go g' (rs.le le) st
      refine ⟨go, fun H => Wv (i + 1) k H, fun H' w => ⟨k, Nat.lt_succ_self k, w⟩, fun x H' y => ?_⟩
      have ir := yl x H' y
      split at run'
      · rename_i o S2 ef
        split at run'
        · rename_i l2 S3 er
          cases run'
          rw [hf] at ef
          simp only at ef
          split at ef
          · rename_i ρ' hb
            refine bind_ok g' ir hb ((e.le le).wipe own) fun σ2 er2 g2 le2 wp => ⟨?_, ?_⟩
            · rw [wp own ht, wipe_idem]
            · have hDH : H' D = some (.lst ys) := le2.keep D _ n1 hd
              refine hc ι' F' S' H' ρ' σ2 _ g2 er2 ?_
              cases ec : evIf Fv gd cond ρ' S' with
              | ok b Sb =>
                rw [ec] at ef
                intro ι3 F3 H3 b' le3 g3 hb'
                cases (show b = b' from hb')
                have n13 : D ∉ ι3 := fun z => by rw [le3.newL D z n1] at hDH; cases hDH
                have n23 : F3 D = none := le3.newF D n1 n2 (by rw [hDH]; exact fun z => by cases z)
                have hD3 : H3 D = some (.lst ys) := le3.keep D _ n1 hDH
                have le13 := (le.trans le2).trans le3
                cases b with
                | true =>
                  rw [if_pos rfl]
                  change R.bind (evE Fv gd elt ρ' Sb) (fun w S => R.ok (some w) S) = R.ok o S2 at ef
                  refine he ι3 F3 Sb H3 ρ' σ2 _ g3 (er2.le le3) ?_
                  cases ew : evE Fv gd elt ρ' Sb with
                  | ok w Sw =>
                    rw [ew] at ef
                    cases ef
                    intro ι4 F4 H4 v le4 g4 rw4
                    have n14 : D ∉ ι4 := fun z => by rw [le4.newL D z n13] at hD3; cases hD3
                    have n24 : F4 D = none := le4.newF D n13 n23 (by rw [hD3]; exact fun z => by cases z)
                    have hD4 : H4 D = some (.lst ys) := le4.keep D _ n13 hD3
                    have le14 := le13.trans le4
                    refine ⟨ys, hD4, ?_, ι4, F4, S2, l ++ [w], ys ++ [v], l2, le14.other hD, g4.other n14 n24, n14, n24, upd_same, ?_, ?_, by omega, er, ?_⟩
                    · rw [← r.length]
                      exact Nat.lt_of_lt_of_le (show l.length < lim by omega) lim_le
                    · exact papp (WRs.up (le3.pre.trans le4.pre) (fun a o h => le4.ex a o (le3.ex a o (le2.ex a o h))) r) (.cons rw4 .nil)
                    · rw [List.length_append]; simp; omega
                    · rw [← tot]; simp [consO]
                  | exc c w S => rw [ew] at ef; cases ef
                  | bad => rw [ew] at ef; cases ef
                | false =>
                  rw [if_neg Bool.false_ne_true]
                  cases ef
                  exact ⟨ι3, F3, _, l, ys, l2, le13, g3, n13, n23, hD3, WRs.up le3.pre (fun a o h => le3.ex a o (le2.ex a o h)) r, by omega, by omega, er, by rw [← tot]; rfl⟩
              | exc c w S => rw [ec] at ef; cases ef
              | bad => rw [ec] at ef; cases ef
          · cases ef
        · cases run'
      · cases run'
    · cases run'
theorem dadopt_ok {ι ι1 : List Addr} {F H F1 H1 : Hp} {S : Sto} {E : XK} {ws : List (Key × W)} {xs : List (Key × V)} {Q : VK} {D : Addr} (g : GoodS G ι F S H) (l : Le ι1 F1 H1 ι F H) (h1 : H1 D = none) (hd : D ∉ ι) (hf : F D = none) (hD : H D = some (.dK xs)) (r : KR G.toGb ι F ws xs)
    (h : Post G (RE G.toGb) E ι1 F1 H1 (.ok (.ref S.length) (S ++ [.dk ws])) Q) : Q (.ref D) H := by
  have ne : ∀ a ∈ ι, a ≠ D := fun a ha z => hd (by rw [← z]; exact ha)
  have pre : ι <+: ι ++ [D] := List.prefix_append _ _
  refine h (ι ++ [D]) F H (.ref D) ⟨l.pre.trans pre, l.ex, l.dom, l.keep, l.newF, fun a ha hn => ?_, l.frz⟩ ⟨g.ex, by simp [g.len], ?_, fun n o' a e1 e2 => ?_, fun a ha => ?_⟩ ⟨D, by rw [← g.len]; simp, rfl⟩
  · rcases List.mem_append.mp ha with z | z
    · exact l.newL a z hn
    · simp at z; subst z; exact h1
  · rw [List.nodup_append]
    exact ⟨g.nd, by simp, fun a ha b hb => by simp at hb; subst hb; exact ne a ha⟩
  · by_cases hn : n < S.length
    · rw [List.getElem?_append_left hn] at e1
      rw [List.getElem?_append_left (by rw [g.len]; exact hn)] at e2
      exact (g.obj n o' a e1 e2).up pre (fun _ _ h => h) id (fun _ h => h)
    · rw [List.getElem?_append_right (by omega)] at e1
      rw [List.getElem?_append_right (by rw [g.len]; omega)] at e2
      have e : n - S.length = 0 := by
        have := (List.getElem?_eq_some_iff.mp e1).1
        simp at this; omega
      rw [e] at e1
      rw [g.len, e] at e2
      simp at e1 e2
      subst e1 e2
      exact ⟨hf, xs, hD, r.up pre fun _ _ h => h⟩
  · rcases List.mem_append.mp ha with z | z
    · exact g.fr a z
    · simp at z; subst z; rw [hD]; exact fun q => by cases q
theorem dc_noexc {sr : Src} : ∀ (n i : Nat) (acc : List (Key × W)) (S : Sto) (f : IW → Sto → R (Option (W × W))) c w S', dcGo sr f n i acc S ≠ .exc c w S' := fun n => by
  induction n with
  | zero => intro i acc S f c w S' z; cases z
  | succ n ih =>
    intro i acc S f c w S' z
    unfold dcGo at z
    split at z
    · cases z
    · split at z
      · exact ih _ _ _ _ _ _ _ z
      · split at z
        · split at z
          · split at z
            · exact ih _ _ _ _ _ _ _ z
            · cases z
          · cases z
        · cases z
      · cases z
    · cases z
/-- the turns of a dict comprehension -/
theorem dcomp_ok {ι1 : List Addr} {F1 H1 : Hp} {S1 Sf : Sto} {sr : Src} {J : It} {tg : MT} {cond : MO} {key elt : ME} {own : List Nat} {ρ : Rho} {σ : L2.St} {N : Nat} {total : List (Key × W)} {E : XK} {Q : VK} {f : IW → Sto → R (Option (W × W))}
    (hf : f = fun it S => match bindT S tg it (wipeW ρ own) with
        | some ρ' => (evIf Fv gd cond ρ' S).bind fun b S => if b then (evE Fv gd key ρ' S).bind fun x S => (evE Fv gd elt ρ' S).bind fun w S => .ok (some (x, w)) S else .ok none S
        | none => .bad)
    (hc : Snd G REq W0 (rdIf G W0 cond) (evIf Fv gd cond)) (hk : Snd G (RE G.toGb) W0 (rdE G W0 key) (evE Fv gd key)) (he : Snd G (RE G.toGb) W0 (rdE G W0 elt) (evE Fv gd elt)) (ht : tgIn tg own = true)
    (g : GoodS G.toGb ι1 F1 S1 H1) (e : ER G.toGb ι1 F1 ρ σ) (rs : SrcR G.toGb ι1 F1 H1 sr J) (run : dcGo sr f (N + 1) 0 [] S1 = .ok total Sf) (q : Post G.toGb (RE G.toGb) E ι1 F1 H1 (.ok (.ref Sf.length) (Sf ++ [.dk total])) Q) (D : Addr) (hD : H1 D = none) :
    ∃ Wv : Nat → Nat → Hp → Prop, (∃ m, Wv 0 m (upd H1 D (.dK []))) ∧ ∀ i m H, Wv i m H →
      (J.stop i H ∧ Q (.ref D) H) ∨ (J.go i H ∧ ∃ Nx : Hp → Prop, (∀ H', Nx H' → ∃ m', m' < m ∧ Wv (i + 1) m' H') ∧ ∀ x H', J.yld i H x H' → rdTg G.K tg x (L2.wipe σ own) H' fun σ2 H2 => L2.wipe σ2 own = L2.wipe σ own ∧ rdIf G W0 cond σ2 H2 fun b H3 =>
        if b = true then rdE G W0 key σ2 H3 fun y H4 => rdE G W0 elt σ2 H4 fun z H5 => ∃ kvs k, y = kV k ∧ H5 D = some (.dK kvs) ∧ kvs.length < sizeLine ∧ Nx (upd H5 D (.dK (putK kvs k z))) else Nx H3) := by
  let Wv : Nat → Nat → Hp → Prop := fun i fuel H => ∃ ι' F' S' acc ys, Le ι1 F1 H1 ι' F' H ∧ GoodS G.toGb ι' F' S' H ∧ D ∉ ι' ∧ F' D = none ∧ H D = some (.dK ys) ∧ KR G.toGb ι' F' acc ys ∧ dcGo sr f fuel i acc S' = .ok total Sf
  obtain ⟨d1, d2⟩ := g.free hD
  refine ⟨Wv, ⟨N + 1, ι1, F1, S1, [], [], (Le.refl _ _ _).other hD, g.other d1 d2, d1, d2, upd_same, .nil, run⟩, ?_⟩
  rintro i fuel H ⟨ι', F', S', acc, ys, le, g', n1, n2, hd, r, run'⟩
  cases fuel with
  | zero => cases run'
  | succ k =>
    unfold dcGo at run'
    split at run'
    · rename_i st
      cases run'
      exact .inl ⟨item_stop g' (rs.le le) st, dadopt_ok g' le hD n1 n2 hd r q⟩
    · rename_i it st
      right
      obtain ⟨go, yl⟩ := item_go g' (rs.le le) st
      refine ⟨go, fun H => Wv (i + 1) k H, fun H' w => ⟨k, Nat.lt_succ_self k, w⟩, fun x H' y => ?_⟩
      have ir := yl x H' y
      cases ef : f it S' with
      | exc c w Sx => rw [ef] at run'; cases run'
      | bad => rw [ef] at run'; cases run'
      | ok o S2 =>
        rw [ef] at run'
        rw [hf] at ef
        simp only at ef
        split at ef
        · rename_i ρ' hb
          refine bind_ok g' ir hb ((e.le le).wipe own) fun σ2 er2 g2 le2 wp => ⟨?_, ?_⟩
          · rw [wp own ht, wipe_idem]
          · have hDH : H' D = some (.dK ys) := le2.keep D _ n1 hd
            refine hc ι' F' S' H' ρ' σ2 _ g2 er2 ?_
            cases ec : evIf Fv gd cond ρ' S' with
            | exc c w S => rw [ec] at ef; cases ef
            | bad => rw [ec] at ef; cases ef
            | ok b Sb =>
              rw [ec] at ef
              intro ι3 F3 H3 b' le3 g3 hb'
              cases (show b = b' from hb')
              have n13 : D ∉ ι3 := fun z => by rw [le3.newL D z n1] at hDH; cases hDH
              have n23 : F3 D = none := le3.newF D n1 n2 (by rw [hDH]; exact fun z => by cases z)
              have hD3 : H3 D = some (.dK ys) := le3.keep D _ n1 hDH
              have le13 := (le.trans le2).trans le3
              cases b with
              | false =>
                rw [if_neg Bool.false_ne_true]
                cases ef
                exact ⟨ι3, F3, _, acc, ys, le13, g3, n13, n23, hD3, KR.up le3.pre (fun a o h => le3.ex a o (le2.ex a o h)) r, run'⟩
              | true =>
                rw [if_pos rfl]
                change R.bind (evE Fv gd key ρ' Sb) (fun x S => (evE Fv gd elt ρ' S).bind fun w S => R.ok (some (x, w)) S) = R.ok o S2 at ef
                refine hk ι3 F3 Sb H3 ρ' σ2 _ g3 (er2.le le3) ?_
                cases ek : evE Fv gd key ρ' Sb with
                | exc c w S => rw [ek] at ef; cases ef
                | bad => rw [ek] at ef; cases ef
                | ok kw Sk =>
                  rw [ek] at ef
                  change R.bind (evE Fv gd elt ρ' Sk) (fun w S => R.ok (some (kw, w)) S) = R.ok o S2 at ef
                  intro ι4 F4 H4 yv le4 g4 rk4
                  have n14 : D ∉ ι4 := fun z => by rw [le4.newL D z n13] at hD3; cases hD3
                  have n24 : F4 D = none := le4.newF D n13 n23 (by rw [hD3]; exact fun z => by cases z)
                  have hD4 : H4 D = some (.dK ys) := le4.keep D _ n13 hD3
                  refine he ι4 F4 Sk H4 ρ' σ2 _ g4 ((er2.le le3).le le4) ?_
                  cases ew : evE Fv gd elt ρ' Sk with
                  | exc c w S => rw [ew] at ef; cases ef
                  | bad => rw [ew] at ef; cases ef
                  | ok w Sw =>
                    rw [ew] at ef
                    cases ef
                    intro ι5 F5 H5 zv le5 g5 rw5
                    have n15 : D ∉ ι5 := fun z => by rw [le5.newL D z n14] at hD4; cases hD4
                    have n25 : F5 D = none := le5.newF D n14 n24 (by rw [hD4]; exact fun z => by cases z)
                    have hD5 : H5 D = some (.dK ys) := le5.keep D _ n14 hD4
                    simp only at run'
                    split at run'
                    · split at run'
                      · rename_i x q hq
                        split at run'
                        · rename_i hl
                          refine ⟨ys, q, kV_of hq rk4, hD5, ?_, ι5, F5, S2, _, _, ((le13.trans le4).trans le5).other hD, g5.other n15 n25, n15, n25, upd_same, put_ok rw5 ?_, run'⟩
                          · rw [← r.length]; exact Nat.lt_of_lt_of_le hl lim_le
                          · exact KR.up ((le3.pre.trans le4.pre).trans le5.pre) (fun a o h => le5.ex a o (le4.ex a o (le3.ex a o (le2.ex a o h)))) r
                        · cases run'
                      · cases run'
                    · cases run'
        · cases ef
    · cases run'
/-- an error made: its object is new -/
theorem mk_ok (Z : Glue G Fv gd) (A : AllE G Fv gd n) {c : Nat} {as : MEs} {kw : Bool} (hs : sizeOf as < n + 1) (Wx : WX) {ι : List Addr} {F H : Hp} {S : Sto} {ρ : Rho} {σ : L2.St} {Q : VK} (g : GoodS G ι F S H) (e : ER G ι F ρ σ)
    (q : Post G (fun ι' F' w v => WR G ι' F' w v ∧ ∃ a, v = .ref a ∧ H a = none) (WE Wx σ) ι F H (evE Fv gd (.mk c as kw) ρ S) Q) : rdE G Wx (.mk c as kw) σ H Q := by
  have two : ∀ {ι1 : List Addr} {F1 H1 : Hp} {S1 : Sto} {w : W} {v : V} {a d : Addr}, Le ι F H ι1 F1 H1 → GoodS G ι1 F1 S1 H1 → G.hv c = true → WR G ι1 F1 w v → H1 a = none → H1 d = none → d ≠ a →
      Post G (fun ι' F' w v => WR G ι' F' w v ∧ ∃ a, v = .ref a ∧ H a = none) (WE Wx σ) ι1 F1 H1 (.ok (.exn c w) S1) Q → Q (.ref a) (upd (upd H1 d (MPX.exd d [("value", v)])) a (MPX.exo a (G.cl c) (some d))) := fun {ι1 F1 H1 S1 w v a d} l1 g1 hv r1 na nd ne h => by
    obtain ⟨g2, l2⟩ := g1.data (u := MPX.exd d [("value", v)]) nd
    have na' : upd H1 d (MPX.exd d [("value", v)]) a = none := by rw [upd_ne (Ne.symm ne)]; exact na
    obtain ⟨g3, l3⟩ := g2.data (u := MPX.exo a (G.cl c) (some d)) na'
    refine h _ _ _ _ (l2.trans l3) g3 ⟨⟨a, rfl, ?_⟩, a, rfl, ?_⟩
    · rw [if_pos hv]
      refine ⟨d, v, upd_same, ?_, (r1.le l2).le l3⟩
      rw [upd_ne ne, upd_same]
    · cases z : H a with
      | none => rfl
      | some o => exact absurd na (l1.dom a (by rw [z]; exact fun q => by cases q))
  cases as with
  | nil =>
    unfold evE at q
    split at q
    · by_cases hv : G.hv c = true
      · unfold rdE
        rw [if_pos hv]
        exact fun a d na nd ne => two (Le.refl ..) g hv (w := .d .none) At.non na nd ne q
      · unfold rdE
        rw [if_neg hv]
        intro a na
        obtain ⟨g3, l3⟩ := g.data (u := MPX.exo a (G.cl c) none) na
        refine q _ _ _ _ l3 g3 ⟨⟨a, rfl, ?_⟩, a, rfl, na⟩
        rw [if_neg hv]
        exact upd_same
    · exact q.elim
  | cons b r => cases r with
    | nil =>
      simp at hs
      unfold evE at q
      split at q
      · rename_i hc
        rw [Bool.and_eq_true] at hc
        have hv : G.hv c = true := by rw [← Z.gd.hv]; exact hc.1
        unfold rdE
        rw [if_pos hv]
        refine A.e b (by omega) Wx ι F S H ρ σ _ g e (q.bind fun w S1 ι1 F1 H1 v l1 g1 r1 _ h1 => ?_)
        exact fun a d na nd ne => two l1 g1 hv r1 na nd ne h1
      · exact q.elim
    | cons b' r' => exact q.elim
    | star b' r' => exact q.elim
  | star b r => exact q.elim
theorem isDict_ty {ι : List Addr} {F H : Hp} {S : Sto} {x : W} {v : V} (g : GoodS G.toGb ι F S H) (r : WR G.toGb ι F x v) (h : openDict S x = true) : tyV G.K "dict" v H := by
  unfold openDict isDict at h
  rw [Bool.and_eq_true] at h
  obtain ⟨h, hl⟩ := h
  split at h
  · cases r with
    | dk h1 _ => exact .inr (.inr (.inl ⟨rfl, .inl ⟨_, g.ex _ _ h1⟩⟩))
    | dt h1 _ => exact .inr (.inr (.inl ⟨rfl, .inr ⟨_, g.ex _ _ h1⟩⟩))
  · rename_i n
    obtain ⟨a, h1, rfl⟩ := r
    split at h
    · rename_i kvs hs
      obtain ⟨f, kv, h2, h3⟩ := g.obj n _ a hs h1
      exact .inr (.inr (.inl ⟨rfl, .inl ⟨kv, h2⟩⟩))
    · rename_i kvs hs
      simp only [hs] at hl
      cases hl
    · rename_i kvs hs
      obtain ⟨f, kv, h2, h3⟩ := g.obj n _ a hs h1
      exact .inr (.inr (.inl ⟨rfl, .inr ⟨kv, h2⟩⟩))
    · cases h
  · cases h
theorem mtTy_ok {ι : List Addr} {F H : Hp} {S : Sto} {x : W} {v : V} {k : Mt} (g : GoodS G.toGb ι F S H) (r : WR G.toGb ι F x v) (h : mtTy k S x = true) : tyV G.K k.ty v H := by
  have lst : (seqL S x).isSome = true → tyV G.K "list" v H := fun h => by
    obtain ⟨l, hl⟩ := Option.isSome_iff_exists.mp h
    obtain ⟨a, xs, rfl, q, z, p⟩ := seqL_ok g r hl
    exact .inl ⟨rfl, xs, q⟩
  cases k
  · exact lst h
  · exact lst h
  · exact lst h
  · exact lst h
  · exact lst h
  · exact isDict_ty g r h
  · exact isDict_ty g r h
theorem e_step (Z : Glue G Fv gd) (A : AllE G Fv gd n) (m : ME) (hs : sizeOf m < n + 1) (Wx : WX) : Snd G (RE G) Wx (rdE G Wx m) (evE Fv gd m) := by
  intro ι F S H ρ σ Q g e q
  cases m with
  | var i =>
    unfold evE at q
    split at q
    · rename_i w hw
      obtain ⟨v, h1, h2⟩ := e.get hw
      exact ⟨v, h1, Post.here q g h2⟩
    · exact q.elim
  | cst c => exact Post.here q g (show WR G ι F (.d c.D) c.v by cases c <;> constructor)
  | glb i => exact Post.here q g (Z.gl i ι F)
  | ty t => exact Post.here q g (show WR G ι F (.ty t) (.ty t) from rfl)
  | op o mm a b =>
    simp at hs
    exact snd_bin (A.e a (by omega) Wx) (A.e b (by omega) Wx) (r := r2 G.K o) (f := op2 o mm) (fun ι F S H x y v u Q E g r1 r2 h => op2_ok g r1 r2 h) ι F S H ρ σ Q g e q
  | neg a =>
    simp at hs
    unfold evE at q
    refine A.e a (by omega) Wx ι F S H ρ σ _ g e (q.bind fun x S1 ι1 F1 H1 v l1 g1 r1 _ h1 => ?_)
    split at h1
    · cases inv_int r1
      exact ⟨_, rfl, hereI h1 g1⟩
    · exact h1.elim
  | chain o o2 a b c =>
    simp at hs
    exact snd_chain (A.e a (by omega) Wx) (A.e b (by omega) Wx) (A.e c (by omega) Wx) ι F S H ρ σ Q g e q
  | and a b =>
    simp at hs
    unfold evE at q
    refine A.e a (by omega) Wx ι F S H ρ σ _ g e (q.bind fun x S1 ι1 F1 H1 v l1 g1 r1 _ h1 => ?_)
    split at h1
    · rename_i ht
      refine ⟨true, tru_ok g1 r1 ht, ?_⟩
      rw [if_pos rfl]
      exact A.e b (by omega) Wx ι1 F1 S1 H1 ρ σ _ g1 (e.le l1) h1
    · rename_i ht
      refine ⟨false, tru_ok g1 r1 ht, ?_⟩
      rw [if_neg Bool.false_ne_true]
      exact Post.here h1 g1 r1
    · exact h1.elim
  | or a b =>
    simp at hs
    unfold evE at q
    refine A.e a (by omega) Wx ι F S H ρ σ _ g e (q.bind fun x S1 ι1 F1 H1 v l1 g1 r1 _ h1 => ?_)
    split at h1
    · rename_i ht
      refine ⟨true, tru_ok g1 r1 ht, ?_⟩
      rw [if_pos rfl]
      exact Post.here h1 g1 r1
    · rename_i ht
      refine ⟨false, tru_ok g1 r1 ht, ?_⟩
      rw [if_neg Bool.false_ne_true]
      exact A.e b (by omega) Wx ι1 F1 S1 H1 ρ σ _ g1 (e.le l1) h1
    · exact h1.elim
  | not a =>
    simp at hs
    unfold evE at q
    refine A.e a (by omega) Wx ι F S H ρ σ _ g e (q.bind fun x S1 ι1 F1 H1 v l1 g1 r1 _ h1 => ?_)
    split at h1
    · rename_i k ht
      exact ⟨k, tru_ok g1 r1 ht, hereB h1 g1⟩
    · exact h1.elim
  | ife c a b =>
    simp at hs
    unfold evE at q
    refine A.t c (by omega) Wx ι F S H ρ σ _ g e (q.bind fun k S1 ι1 F1 H1 k' l1 g1 r1 _ h1 => ?_)
    cases (show k = k' from r1)
    cases k with
    | true => rw [if_pos rfl] at h1 ⊢; exact A.e a (by omega) Wx ι1 F1 S1 H1 ρ σ _ g1 (e.le l1) h1
    | false => rw [if_neg Bool.false_ne_true] at h1 ⊢; exact A.e b (by omega) Wx ι1 F1 S1 H1 ρ σ _ g1 (e.le l1) h1
  | tup es =>
    simp at hs
    unfold evE at q
    refine A.es es (by omega) Wx ι F S H ρ σ _ g e (q.bind fun ws S1 ι1 F1 H1 vs l1 g1 r1 _ h1 => ?_)
    split at h1
    · rename_i hz
      have hz' : vs.length ≤ sizeLine := by rw [← r1.length]; exact lim_lt hz
      exact ⟨hz', mkT_ok g1 r1 hz' h1⟩
    · exact h1.elim
  | lst mm es =>
    simp at hs
    unfold evE at q
    refine A.es es (by omega) Wx ι F S H ρ σ _ g e (q.bind fun ws S1 ι1 F1 H1 vs l1 g1 r1 _ h1 => ?_)
    split at h1
    · rename_i hz
      have hz' : vs.length ≤ sizeLine := by rw [← r1.length]; exact lim_lt hz
      exact ⟨hz', mkL_ok g1 r1 hz' h1⟩
    · exact h1.elim
  | ix a b =>
    simp at hs
    exact snd_bin (A.e a (by omega) Wx) (A.e b (by omega) Wx) (r := rIxA G.K) (f := ixW) (fun ι F S H x y v u Q E g r1 r2 h => ix_ok g r1 r2 h) ι F S H ρ σ Q g e q
  | sl a lo hi =>
    simp at hs
    unfold evE at q
    refine A.e a (by omega) Wx ι F S H ρ σ _ g e (q.bind fun x S1 ι1 F1 H1 v l1 g1 r1 _ h1 => ?_)
    refine A.o lo (by omega) Wx ι1 F1 S1 H1 ρ σ _ g1 (e.le l1) (h1.bind fun x2 S2 ι2 F2 H2 v2 l2 g2 r2 _ h2 => ?_)
    refine A.o hi (by omega) Wx ι2 F2 S2 H2 ρ σ _ g2 ((e.le l1).le l2) (h2.bind fun x3 S3 ι3 F3 H3 v3 l3 g3 r3 _ h3 => ?_)
    cases (show x2 = v2 from r2)
    cases (show x3 = v3 from r3)
    exact sl_ok g3 ((r1.le l2).le l3) h3
  | bi b mm as =>
    simp at hs
    unfold evE at q
    refine A.es as (by omega) Wx ι F S H ρ σ _ g e (q.bind fun ws S1 ι1 F1 H1 vs l1 g1 r1 _ h1 => ?_)
    exact bi_okW Z.gd g1 r1 h1
  | mt k o as =>
    simp at hs
    unfold evE at q
    cases as with
    | nil =>
      refine A.e o (by omega) Wx ι F S H ρ σ _ g e (q.bind fun x S1 ι1 F1 H1 v l1 g1 r1 _ h1 => ?_)
      split at h1
      · rename_i hq
        exact ⟨mtTy_ok g1 r1 hq, mt_okW g1 r1 .nil h1⟩
      · exact h1.elim
    | cons a as =>
      refine A.e o (by omega) Wx ι F S H ρ σ _ g e (q.bind fun x S1 ι1 F1 H1 v l1 g1 r1 _ h1 => ?_)
      split at h1
      · rename_i hq
        refine ⟨mtTy_ok g1 r1 hq, ?_⟩
        have hes := A.es (.cons a as) (by simp at hs ⊢; omega) Wx ι1 F1 S1 H1 ρ σ
        refine hes _ g1 (e.le l1) (h1.bind fun ws S2 ι2 F2 H2 vs l2 g2 r2 _ h2 => ?_)
        exact mt_okW g2 (r1.le l2) r2 h2
      · exact h1.elim
    | star a as => exact q.elim
  | bits a =>
    simp at hs
    unfold evE at q
    refine A.e a (by omega) Wx ι F S H ρ σ _ g e (q.bind fun x S1 ι1 F1 H1 v l1 g1 r1 _ h1 => ?_)
    split at h1
    · cases inv_int r1
      exact ⟨_, rfl, hereI h1 g1⟩
    · exact h1.elim
  | call f as =>
    simp at hs
    unfold evE at q
    refine A.es as (by omega) Wx ι F S H ρ σ _ g e (q.bind fun ws S1 ι1 F1 H1 vs l1 g1 r1 _ h1 => ?_)
    exact Z.fn _ _ _ _ _ _ _ _ _ g1 r1 h1
  | mk c as kw =>
    simp at hs
    refine mk_ok Z A (by omega) Wx g e (q.mono' fun a S' ι' F' H' v l g r => r.1)
  | val a =>
    simp at hs
    unfold evE at q
    refine A.e a (by omega) Wx ι F S H ρ σ _ g e (q.bind fun x S1 ι1 F1 H1 v l1 g1 r1 _ h1 => ?_)
    exact val_ok Z g1 r1 h1
  | eqX a b =>
    simp at hs
    unfold evE at q
    split at q
    · refine A.e a (by omega) Wx ι F S H ρ σ _ g e (q.bind fun x S1 ι1 F1 H1 v l1 g1 r1 _ h1 => ?_)
      cases b with
      | mk c as kw =>
        simp at hs
        refine mk_ok Z A (by omega) Wx g1 (e.le l1) (h1.bind fun y S2 ι2 F2 H2 u l2 g2 r2 _ h2 => ?_)
        obtain ⟨r2, b, rfl, hb⟩ := r2
        unfold neX at h2
        split at h2
        · rename_i c1 w1 c2 w2
          split at h2
          · rename_i hc
            obtain ⟨hc1, hc2⟩ := hc
            subst hc1
            obtain ⟨a0, d0, rfl, k1, k2, k3⟩ := exn_at g2 (r1.le l2)
            obtain ⟨b0, d1, eb, j1, j2, _⟩ := exn_at g2 r2
            cases eb
            obtain ⟨a1, d2, ea, _, _, k4⟩ := exn_at g1 r1
            cases ea
            have ne : a0 ≠ b := fun z => by
              have := g1.ex _ _ k4
              rw [z, hb] at this
              cases this
            obtain ⟨_, _, e3, e4⟩ := Z.gd.ex _ hc2
            exact ⟨a0, b, _, d0, d1, rfl, rfl, ne, k1, k2, j1, j2, e3, e4, hereB h2 g2⟩
          · exact h2.elim
        · exact h2.elim
      | _ => rename_i hb; exact absurd hb (by simp [isMk])
    · exact q.elim
  | comp mm elt tg k src cond own =>
    simp at hs
    unfold evE at q
    refine lock_ok g e q fun F H S Q g e q => ?_
    split at q
    · rename_i hsh
      refine rdI_of hsh ?_
      refine A.es src (by omega) Wx ι F S H ρ σ _ g e (q.bind fun ws S1 ι1 F1 H1 vs l1 g1 r1 _ h1 => ?_)
      split at h1
      · rename_i sr N hsr
        split at h1
        · rename_i hN
          rw [Bool.and_eq_true] at hN
          refine src_ok g1 r1 hsr fun J rs D hD => ?_
          generalize hrun : compGo sr _ (N + 1) 0 S1 = res at h1
          cases res with
          | ok total Sf =>
            exact comp_ok rfl (A.f cond (by omega) W0) (A.e elt (by omega) W0) (of_decide_eq_true hN.1) hN.2 g1 (e.le l1) rs hrun h1 D hD
          | exc c w Sf =>
            exfalso
            have no : ∀ (n i : Nat) (S : Sto) (f : IW → Sto → R (Option W)) c w S', compGo sr f n i S ≠ .exc c w S' := fun n => by
              induction n with
              | zero => intro i S f c w S' z; cases z
              | succ n ih =>
                intro i S f c w S' z
                unfold compGo at z
                split at z
                · cases z
                · split at z
                  · split at z <;> cases z
                  · cases z
                · cases z
            exact no _ _ _ _ _ _ _ hrun
          | bad => exact h1.elim
        · exact h1.elim
      · exact h1.elim
    · exact q.elim
  | bad => exact q.elim
  | un u mm a =>
    simp at hs
    unfold evE at q
    refine A.e a (by omega) Wx ι F S H ρ σ _ g e (q.bind fun x S1 ι1 F1 H1 v l1 g1 r1 _ h1 => ?_)
    exact u1_okW (E := WE Wx σ) g1 r1 h1
  | dnew t =>
    unfold rdE
    unfold evE at q
    have key : ∀ (u : HO) (o : O) (p : Addr), H p = none → (F p = none → OR G.toGb (ι ++ [p]) F (upd H p u) p o) → Post G.toGb (RE G.toGb) (WE Wx σ) ι F H (.ok (.ref S.length) (S ++ [o])) Q → Q (.ref p) (upd H p u) := fun u o p hp ho h => by
      obtain ⟨_, hF⟩ := g.free hp
      obtain ⟨g', l⟩ := g.push (p := p) (u := u) (o := o) hp (ho hF)
      exact h _ _ _ _ l g' ⟨p, by rw [← g.len]; simp, rfl⟩
    cases t with
    | true => rw [if_pos rfl] at q ⊢; exact fun p hp => key (.dT []) (.dt []) p hp (fun hF => ⟨hF, [], upd_same, .nil⟩) q
    | false => rw [if_neg Bool.false_ne_true] at q ⊢; exact fun p hp => key (.dK []) (.dk []) p hp (fun hF => ⟨hF, [], upd_same, .nil⟩) q
  | gin neg a i =>
    simp at hs
    unfold evE at q
    refine A.e a (by omega) Wx ι F S H ρ σ _ g e (q.bind fun x S1 ι1 F1 H1 v l1 g1 r1 _ h1 => ?_)
    have key : ∀ Q', rGin G.K (G.kd i) neg v (.ref (G.kd i)) H1 Q' → tC (.ref (G.kd i)) σ H1 (fun y H2 => rGin G.K (G.kd i) neg v y H2 Q') := fun _ h => h
    refine key _ ?_
    split at h1
    · rename_i b hb
      exact gin_ok Z r1 hb (hereB h1 g1)
    · exact h1.elim
  | gix i a =>
    simp at hs
    unfold evE at q
    have key : rdE G Wx a σ H (fun y H1 => rGix G.K (G.kd i) (.ref (G.kd i)) y H1 Q) → tGix G.K (G.kd i) (rdE G Wx a) σ H Q := fun h => h
    refine key (A.e a (by omega) Wx ι F S H ρ σ _ g e (q.bind fun x S1 ι1 F1 H1 v l1 g1 r1 _ h1 => ?_))
    split at h1
    · rename_i p hp
      exact gix_ok (E := WE Wx σ) Z g1 r1 hp h1
    · exact h1.elim
  | new c f as =>
    simp at hs
    unfold evE at q
    refine A.es as (by omega) Wx ι F S H ρ σ _ g e (q.bind fun ws S1 ι1 F1 H1 vs l1 g1 r1 _ h1 => ?_)
    intro x dx nx ndx ne
    obtain ⟨g2, l2⟩ := g1.beside (u := .own x) ndx
    have nx' : upd H1 dx (.own x) x = none := by rw [upd_ne (Ne.symm ne)]; exact nx
    obtain ⟨_, hF⟩ := g2.free nx'
    obtain ⟨g3, l3⟩ := g2.push (p := x) (u := .ins (G.co c) dx []) (o := .ins c []) nx' ⟨hF, dx, [], upd_same, .nil⟩
    have l23 := l2.trans l3
    have rx : WR G (ι1 ++ [x]) F1 (.ref S1.length) (.ref x) := ⟨x, by rw [← g1.len]; simp, rfl⟩
    refine Z.fn _ _ _ _ _ _ _ _ _ g3 (.cons rx (WRs.up l23.pre l23.ex r1)) ?_
    refine (Post.le l23 h1).bind fun w S2 ι2 F2 H2 v l4 g4 r4 _ h2 => ?_
    split at h2
    · cases inv_non r4
      exact ⟨rfl, Post.here h2 g4 (rx.le l4)⟩
    · exact h2.elim
  | meth c f m o as =>
    simp at hs
    unfold evE at q
    exact meth_ok (rel := fun _ _ (a b : Unit) => True) Z A (by omega) (by omega) g e (Wx := Wx) (S := S) (ρ := ρ) q
  | fld c x o =>
    simp at hs
    unfold evE at q
    exact fld_ok A (by omega) g e (Wx := Wx) (S := S) (ρ := ρ) q
  | dcomp key elt tg k src cond own =>
    simp at hs
    unfold evE at q
    refine lock_ok g e q fun F H S Q g e q => ?_
    split at q
    · rename_i hsh
      refine rdI_of hsh ?_
      refine A.es src (by omega) Wx ι F S H ρ σ _ g e (q.bind fun ws S1 ι1 F1 H1 vs l1 g1 r1 _ h1 => ?_)
      split at h1
      · rename_i sr N hsr
        split at h1
        · rename_i hN
          rw [Bool.and_eq_true] at hN
          refine src_ok g1 r1 hsr fun J rs D hD => ?_
          generalize hrun : dcGo sr _ (N + 1) 0 [] S1 = res at h1
          cases res with
          | ok total Sf => exact dcomp_ok rfl (A.f cond (by omega) W0) (A.e key (by omega) W0) (A.e elt (by omega) W0) hN.2 g1 (e.le l1) rs hrun h1 D hD
          | exc c w Sf => exact (dc_noexc _ _ _ _ _ _ _ _ hrun).elim
          | bad => exact h1.elim
        · exact h1.elim
      · exact h1.elim
    · exact q.elim
theorem allE_ok (Z : Glue G Fv gd) : ∀ n, AllE G Fv gd n
  | 0 => ⟨fun _ h => by omega, fun _ h => by omega, fun _ h => by omega, fun _ h => by omega, fun _ h => by omega⟩
  | n + 1 => ⟨e_step Z (allE_ok Z n), es_step (allE_ok Z n), o_step (allE_ok Z n), f_step (allE_ok Z n), t_step Z (allE_ok Z n)⟩
theorem e_ok (Z : Glue G Fv gd) (m : ME) (Wx : WX) : Snd G (RE G) Wx (rdE G Wx m) (evE Fv gd m) := (allE_ok Z _).e m (Nat.lt_succ_self _) Wx
theorem es_ok (Z : Glue G Fv gd) (m : MEs) (Wx : WX) : Snd G (REs G) Wx (rdEs G Wx m) (evEs Fv gd m) := (allE_ok Z _).es m (Nat.lt_succ_self _) Wx
theorem t_ok (Z : Glue G Fv gd) (m : ME) (Wx : WX) : Snd G REq Wx (rdT G Wx m) (evT Fv gd m) := (allE_ok Z _).t m (Nat.lt_succ_self _) Wx
end
end MP
namespace MP
open PySem L2 PyProof.Rows PySem.Spec
def PostS (G : Gv) (Wx : WX) (ι : List Addr) (F H : Hp) (r : RS) (D : Ends) : Prop :=
  match r with
  | .next ρ S => ∀ ι' F' H' σ', Le ι F H ι' F' H' → GoodS G ι' F' S H' → ER G ι' F' ρ σ' → D.nx σ' H'
  | .brk ρ S => ∀ ι' F' H' σ', Le ι F H ι' F' H' → GoodS G ι' F' S H' → ER G ι' F' ρ σ' → D.bk σ' H'
  | .cont ρ S => ∀ ι' F' H' σ', Le ι F H ι' F' H' → GoodS G ι' F' S H' → ER G ι' F' ρ σ' → D.ct σ' H'
  | .ret w S => ∀ ι' F' H' v, Le ι F H ι' F' H' → GoodS G ι' F' S H' → WR G ι' F' w v → D.rt v H'
  | .exc c w ρ S => ∀ ι' F' H' σ' d, Le ι F H ι' F' H' → GoodS G ι' F' S H' → ER G ι' F' ρ σ' → ExcAt G ι' F' c w d → Wx (.ref (G.cl c)) d σ' H'
  | .bad => False
def SndS (G : Gv) (Wx : WX) (t : TS) (ev : Rho → Sto → RS) : Prop :=
  ∀ (ι : List Addr) (F : Hp) (S : Sto) (H : Hp) (ρ : Rho) (σ : L2.St) (D : Ends), GoodS G ι F S H → ER G ι F ρ σ → PostS G Wx ι F H (ev ρ S) D → t D σ H
section
variable {G : Gv} {Wx : WX} {ι ι1 : List Addr} {F H F1 H1 : Hp} {S : Sto} {ρ : Rho} {σ : L2.St} {D : Ends}
theorem PostS.le {r : RS} (l : Le ι F H ι1 F1 H1) (h : PostS G Wx ι F H r D) : PostS G Wx ι1 F1 H1 r D := by
  cases r with
  | next ρ S => exact fun ι' F' H' v l' g => h ι' F' H' v (l.trans l') g
  | brk ρ S => exact fun ι' F' H' v l' g => h ι' F' H' v (l.trans l') g
  | cont ρ S => exact fun ι' F' H' v l' g => h ι' F' H' v (l.trans l') g
  | ret w S => exact fun ι' F' H' v l' g => h ι' F' H' v (l.trans l') g
  | exc c w ρ S => exact fun ι' F' H' v d l' g => h ι' F' H' v d (l.trans l') g
  | bad => exact h
theorem PostS.bind {α β : Type} {rel : List Addr → Hp → α → β → Prop} {r : R α} {f : α → Sto → RS} {Q : β → Hp → Prop} (h : PostS G Wx ι F H (r.toS ρ f) D) (e : ER G ι F ρ σ)
    (k : ∀ a S' ι' F' H' v, Le ι F H ι' F' H' → GoodS G ι' F' S' H' → rel ι' F' a v → PostS G Wx ι' F' H' (f a S') D → Q v H') : Post G rel (WE Wx σ) ι F H r Q := by
  cases r with
  | ok a S' => exact fun ι' F' H' v l g q => k a S' ι' F' H' v l g q (PostS.le l h)
  | exc c w S' => exact fun ι' F' H' d l g q => h ι' F' H' σ d l g (e.le l) q
  | bad => exact h
theorem PostS.next {ρ' : Rho} {σ' : L2.St} (h : PostS G Wx ι F H (.next ρ' S) D) (g : GoodS G ι F S H) (e : ER G ι F ρ' σ') : D.nx σ' H := h ι F H σ' (Le.refl ..) g e
end
section
variable {G : Gv} {Fv : Nat → List W → Sto → R W} {gd : Gd} {n wf : Nat} {Wx : WX} {suite : MSs}
theorem kr_put {ι : List Addr} {F : Hp} {x : Str} {w : W} {v : V} (r : WR G ι F w v) : ∀ {fs : List (Str × W)} {kv : List (Str × V)}, KR G.toGb ι F fs kv → KR G.toGb ι F (putFW x w fs) (putF x v kv)
  | [], _, .nil => .cons ⟨rfl, r⟩ .nil
  | (y, w') :: t, _, .cons (b := kv0) h k => by
    obtain ⟨y', v'⟩ := kv0
    obtain ⟨h1, h2⟩ := h
    simp only at h1 h2
    subst h1
    unfold putFW putF
    by_cases e : y = x
    · rw [if_pos e, if_pos e]; exact .cons ⟨rfl, r⟩ k
    · rw [if_neg e, if_neg e]; exact .cons ⟨rfl, h2⟩ (kr_put r k)
theorem lockS_ok {k : IK} {src : MEs} {ρ : Rho} {σ : L2.St} {t : TS} {f : Sto → RS} {ι : List Addr} {F H : Hp} {S : Sto} {D : Ends} (g : GoodS G ι F S H) (e : ER G ι F ρ σ) (q : PostS G Wx ι F H (inLkS k src ρ S f) D)
    (hk : ∀ (F H : Hp) (S : Sto) (D : Ends), GoodS G ι F S H → ER G ι F ρ σ → PostS G Wx ι F H (f S) D → t D σ H) : lkS k t D σ H := by
  unfold inLkS at q
  unfold lkS
  split
  · rename_i hl
    rw [if_pos hl] at q
    split at q
    · rename_i n kvs hn
      obtain ⟨a, kv, ha, hH, lk⟩ := lkOf_ok g e hn
      refine ⟨a, .dK kv, hH, by first | trivial | simp [Mut], fun od => ?_⟩
      obtain ⟨g1, l1⟩ := lk od
      refine hk F _ _ _ g1 e ?_
      cases hr : f (S.set n (.lk kvs)) with
      | next ρ2 S2 =>
        rw [hr] at q
        unfold unlkS at q
        simp only at q
        intro ι' F' H' σ' l' g' e'
        split at q
        · rename_i S3 u
          obtain ⟨z1, z2, z3⟩ := unlk_ok ha hH l' g' u
          exact ⟨z1, q ι' F' _ σ' z3 z2 e'⟩
        · exact q.elim
      | ret w S2 =>
        rw [hr] at q
        unfold unlkS at q
        simp only at q
        intro ι' F' H' v l' g' r'
        split at q
        · rename_i S3 u
          obtain ⟨z1, z2, z3⟩ := unlk_ok ha hH l' g' u
          exact ⟨z1, q ι' F' _ v z3 z2 r'⟩
        · exact q.elim
      | exc c w ρ2 S2 =>
        rw [hr] at q
        intro ι' F' H' σ' d l' g' e' x'
        exact q ι' F' H' σ' d (l'.locked (List.mem_of_getElem? ha) hH (fun o v z => by cases z)) g' e' x'
      | brk ρ2 S2 => rw [hr] at q; exact q.elim
      | cont ρ2 S2 => rw [hr] at q; exact q.elim
      | bad => rw [hr] at q; exact q.elim
    · exact q.elim
  · rename_i hl
    rw [if_neg hl] at q
    exact hk F H S D g e q
theorem ER.unset {ι : List Addr} {F : Hp} {ρ : Rho} {σ : L2.St} (e : ER G.toGb ι F ρ σ) (i : Nat) : ER G.toGb ι F (ρ.set i none) (σ.set i none) := pset (fun w z => by cases z) i e
/-- an except suite -/
theorem suite_ok (A : ∀ Wx, SndS G Wx (rdSs G Wx suite) (exSs Fv gd wf suite)) {c' : Nat} {w : W} {ρ' : Rho} {S' : Sto} {ι : List Addr} {F H : Hp} {D : Ends} {ι' : List Addr} {F' H' : Hp} {σ' : L2.St} {d : Option Addr} {a : Addr} {i : Nat}
    (q : PostS G Wx ι F H (outTry (some i) (exSs Fv gd wf suite (slotSet (some i) (some (.exn c' w)) ρ') S')) D) (l : Le ι F H ι' F' H') (g' : GoodS G ι' F' S' H') (e' : ER G ι' F' ρ' σ') (x' : ExcAt G ι' F' c' w d) (na : H' a = none) :
    rdSs G (fun _ _ _ _ => False) suite { nx := fun σ' H' => D.nx (σ'.set i none) H', rt := D.rt, bk := fun σ' H' => D.bk (σ'.set i none) H', ct := fun σ' H' => D.ct (σ'.set i none) H' } (σ'.set i (some (.ref a))) (upd H' a (MPX.exo a (G.cl c') d)) := by
  obtain ⟨g2, l2⟩ := g'.data (u := MPX.exo a (G.cl c') d) na
  have rw' : WR G ι' (upd F' a (MPX.exo a (G.cl c') d)) (.exn c' w) (.ref a) := by
    refine ⟨a, rfl, ?_⟩
    unfold ExcAt at x'
    by_cases hv : G.hv c' = true
    · rw [if_pos hv] at x' ⊢
      obtain ⟨dd, x, rfl, h1, h2⟩ := x'
      exact ⟨dd, x, upd_same, l2.ex _ _ h1, h2.le l2⟩
    · rw [if_neg hv] at x' ⊢
      rw [x']
      exact upd_same
  refine A _ ι' _ S' _ _ _ _ g2 ((e'.le l2).set i rw') ?_
  have q2 := PostS.le (l.trans l2) q
  change PostS G (fun _ _ _ _ => False) ι' _ _ (exSs Fv gd wf suite (slotSet (some i) (some (.exn c' w)) ρ') S') _
  cases hr : exSs Fv gd wf suite (slotSet (some i) (some (.exn c' w)) ρ') S' with
  | next ρ2 S2 => rw [hr] at q2; exact fun ι3 F3 H3 σ3 l3 g3 e3 => q2 ι3 F3 H3 _ l3 g3 (e3.unset i)
  | brk ρ2 S2 => rw [hr] at q2; exact fun ι3 F3 H3 σ3 l3 g3 e3 => q2 ι3 F3 H3 _ l3 g3 (e3.unset i)
  | cont ρ2 S2 => rw [hr] at q2; exact fun ι3 F3 H3 σ3 l3 g3 e3 => q2 ι3 F3 H3 _ l3 g3 (e3.unset i)
  | ret w2 S2 => rw [hr] at q2; exact q2
  | exc c2 w2 ρ2 S2 => rw [hr] at q2; exact q2.elim
  | bad => rw [hr] at q2; exact q2.elim
theorem asg_ok (Z : Glue G Fv gd) {ι : List Addr} {F H : Hp} {S : Sto} {ρ : Rho} {σ : L2.St} {D : Ends} {mg : MG} {w : W} {v : V} {k : Rho → Sto → RS} {P : L2.St → Hp → Prop} (g : GoodS G ι F S H) (e : ER G ι F ρ σ) (r : WR G ι F w v)
    (h : PostS G Wx ι F H (asgG Fv gd mg w ρ S k) D) (kk : ∀ ρ' S' ι' F' H' σ', Le ι F H ι' F' H' → GoodS G ι' F' S' H' → ER G ι' F' ρ' σ' → PostS G Wx ι' F' H' (k ρ' S') D → P σ' H') : rdG G Wx mg v σ H P := by
  cases mg with
  | nm i => exact kk _ _ _ _ _ _ (Le.refl ..) g (e.set i r) h
  | sub a i =>
    unfold asgG at h
    refine e_ok Z a Wx ι F S H ρ σ _ g e (h.bind e fun x S1 ι1 F1 H1 xv l1 g1 r1 h1 => ?_)
    refine e_ok Z i Wx ι1 F1 S1 H1 ρ σ _ g1 (e.le l1) (h1.bind (e.le l1) fun y S2 ι2 F2 H2 yv l2 g2 r2 h2 => ?_)
    have e2 := (e.le l1).le l2
    refine set_okW (E := WE Wx σ) g2 (r1.le l2) r2 ((r.le l1).le l2) (h2.bind (rel := fun _ _ _ _ => True) e2 fun u S3 ι3 F3 H3 uv l3 g3 r3 h3 => ?_)
    exact kk _ _ _ _ _ _ ((l1.trans l2).trans l3) g3 (e2.le l3) h3
  | fld c x o =>
    unfold asgG at h
    refine e_ok Z o Wx ι F S H ρ σ _ g e (h.bind e fun y S1 ι1 F1 H1 xv l1 g1 r1 h1 => ?_)
    split at h1
    · rename_i n
      split at h1
      · rename_i fs hfs
        split at h1
        · rename_i hl
          obtain ⟨n', a, dx, kv, en, rfl, ha, hs, hf, hH, hK⟩ := ins_ok g1 r1 hfs
          cases en
          obtain ⟨g2, l2⟩ := g1.write (u := .ins (G.co c) dx (putF x v kv)) (o := .ins c (putFW x w fs)) hs ha hf (fun o u z => by rw [hH] at z; cases z) ⟨hf, dx, _, upd_same, kr_put (r.le l1) hK⟩
          exact ⟨a, dx, kv, rfl, hH, by rw [← hK.length]; exact hl, kk _ _ _ _ _ _ (l1.trans l2) g2 ((e.le l1).le l2) (PostS.le l2 h1)⟩
        · exact h1.elim
      · exact h1.elim
    · exact h1.elim
theorem asgs_ok (Z : Glue G Fv gd) {D : Ends} {k : Rho → Sto → RS} {P : L2.St → Hp → Prop} : ∀ {gs : List MG} {ws : List W} {vs : List V} {ι : List Addr} {F H : Hp} {S : Sto} {ρ : Rho} {σ : L2.St}, GoodS G ι F S H → ER G ι F ρ σ → WRs G ι F ws vs →
    PostS G Wx ι F H (asgGs Fv gd gs ws ρ S k) D → (∀ ρ' S' ι' F' H' σ', Le ι F H ι' F' H' → GoodS G ι' F' S' H' → ER G ι' F' ρ' σ' → PostS G Wx ι' F' H' (k ρ' S') D → P σ' H') → rdGs G Wx gs vs σ H P
  | [], [], _, ι, F, H, S, ρ, σ, g, e, .nil, h, kk => ⟨rfl, kk _ _ _ _ _ _ (Le.refl ..) g e h⟩
  | mg :: gs, w :: ws, _, ι, F, H, S, ρ, σ, g, e, .cons r t, h, kk => by
    refine ⟨_, _, rfl, asg_ok Z g e r h fun ρ' S' ι' F' H' σ' l g' e' h' => ?_⟩
    exact asgs_ok Z g' e' (WRs.up l.pre l.ex t) h' fun ρ2 S2 ι2 F2 H2 σ2 l2 => kk ρ2 S2 ι2 F2 H2 σ2 (l.trans l2)
  | [], _ :: _, _, _, _, _, _, _, _, _, _, _, h, _ => h.elim
  | _ :: _, [], _, _, _, _, _, _, _, _, _, _, h, _ => h.elim
structure AllB (G : Gv) (Fv : Nat → List W → Sto → R W) (gd : Gd) (wf n : Nat) : Prop where
  s : ∀ m : MS, sizeOf m < n → ∀ Wx, SndS G Wx (rdS G Wx m) (exS Fv gd wf m)
  ss : ∀ m : MSs, sizeOf m < n → ∀ Wx, SndS G Wx (rdSs G Wx m) (exSs Fv gd wf m)
theorem while_ok {ev : Rho → Sto → R Bool} {f : Rho → Sto → RS} {tc : TT} {tb : TS} (hc : Snd G REq Wx tc ev) (hb : SndS G Wx tb f) (N : Nat) : SndS G Wx (tWhile tc tb) (fun ρ S => whlGo ev f N ρ S) := by
  intro ι F S H ρ σ D g e q
  refine ⟨fun m σ' H' => ∃ ι' F' S' ρ', Le ι F H ι' F' H' ∧ GoodS G ι' F' S' H' ∧ ER G ι' F' ρ' σ' ∧ PostS G Wx ι' F' H' (whlGo ev f m ρ' S') D, ⟨N, ι, F, S, ρ, Le.refl .., g, e, q⟩, ?_⟩
  rintro m σ0 H0 ⟨ι0, F0, S0, ρ0, l0, g0, e0, q0⟩
  cases m with
  | zero => exact q0.elim
  | succ k =>
    unfold whlGo at q0
    refine hc ι0 F0 S0 H0 ρ0 σ0 _ g0 e0 (q0.bind e0 fun b S1 ι1 F1 H1 b' l1 g1 r1 h1 => ?_)
    cases (show b = b' from r1)
    cases b with
    | false =>
      rw [if_neg Bool.false_ne_true] at h1 ⊢
      exact h1.next g1 (e0.le l1)
    | true =>
      rw [if_pos rfl] at h1 ⊢
      refine ⟨_, fun σ' H' w => ⟨k, Nat.lt_succ_self k, w⟩, hb ι1 F1 S1 H1 ρ0 σ0 _ g1 (e0.le l1) ?_⟩
      have l01 := l0.trans l1
      cases hr : f ρ0 S1 with
      | next ρ2 S2 => rw [hr] at h1; exact fun ι2 F2 H2 σ2 l2 g2 e2 => ⟨ι2, F2, S2, ρ2, l01.trans l2, g2, e2, PostS.le l2 h1⟩
      | cont ρ2 S2 => rw [hr] at h1; exact fun ι2 F2 H2 σ2 l2 g2 e2 => ⟨ι2, F2, S2, ρ2, l01.trans l2, g2, e2, PostS.le l2 h1⟩
      | brk ρ2 S2 => rw [hr] at h1; exact h1
      | ret w S2 => rw [hr] at h1; exact h1
      | exc c w ρ2 S2 => rw [hr] at h1; exact h1
      | bad => rw [hr] at h1; exact h1
theorem for_ok {sr : Src} {J : It} {tg : MT} {f : Rho → Sto → RS} {tb : TS} (hb : SndS G Wx tb f) (N : Nat) {ι : List Addr} {F H : Hp} {S : Sto} {ρ : Rho} {σ : L2.St} {D : Ends} (g : GoodS G ι F S H) (e : ER G ι F ρ σ) (rs : SrcR G ι F H sr J)
    (q : PostS G Wx ι F H (forGo sr tg f N 0 ρ S) D) : ∃ Wv : Nat → Nat → L2.St → Hp → Prop, (∃ m, Wv 0 m σ H) ∧ ∀ i m σ H, Wv i m σ H →
      (J.stop i H ∧ D.nx σ H) ∨ (J.go i H ∧ ∃ Nx : L2.St → Hp → Prop, (∀ σ' H', Nx σ' H' → ∃ m', m' < m ∧ Wv (i + 1) m' σ' H') ∧ ∀ x H', J.yld i H x H' → rdTg G.K tg x σ H' fun σ2 H2 => tb { D with nx := Nx, ct := Nx, bk := D.nx } σ2 H2) := by
  refine ⟨fun i m σ' H' => ∃ ι' F' S' ρ', Le ι F H ι' F' H' ∧ GoodS G ι' F' S' H' ∧ ER G ι' F' ρ' σ' ∧ PostS G Wx ι' F' H' (forGo sr tg f m i ρ' S') D, ⟨N, ι, F, S, ρ, Le.refl .., g, e, q⟩, ?_⟩
  rintro i m σ0 H0 ⟨ι0, F0, S0, ρ0, l0, g0, e0, q0⟩
  cases m with
  | zero => exact q0.elim
  | succ k =>
    unfold forGo at q0
    split at q0
    · rename_i st
      exact .inl ⟨item_stop g0 (rs.le l0) st, q0.next g0 e0⟩
    · rename_i it st
      obtain ⟨go, yl⟩ := item_go g0 (rs.le l0) st
      refine .inr ⟨go, _, fun σ' H' w => ⟨k, Nat.lt_succ_self k, w⟩, fun x H' y => ?_⟩
      split at q0
      · rename_i ρ1 hbt
        refine bind_ok g0 (yl x H' y) hbt e0 fun σ1 e1 g1 l1 _ => ?_
        refine hb ι0 F0 S0 H' ρ1 σ1 _ g1 e1 ?_
        have l01 := l0.trans l1
        have h1 := PostS.le l1 q0
        cases hr : f ρ1 S0 with
        | next ρ2 S2 => rw [hr] at h1; exact fun ι2 F2 H2 σ2 l2 g2 e2 => ⟨ι2, F2, S2, ρ2, l01.trans l2, g2, e2, PostS.le l2 h1⟩
        | cont ρ2 S2 => rw [hr] at h1; exact fun ι2 F2 H2 σ2 l2 g2 e2 => ⟨ι2, F2, S2, ρ2, l01.trans l2, g2, e2, PostS.le l2 h1⟩
        | brk ρ2 S2 => rw [hr] at h1; exact h1
        | ret w S2 => rw [hr] at h1; exact h1
        | exc c w ρ2 S2 => rw [hr] at h1; exact h1
        | bad => rw [hr] at h1; exact h1
      · exact q0.elim
    · exact q0.elim
theorem s_step (Z : Glue G Fv gd) {wf : Nat} (A : AllB G Fv gd wf n) (m : MS) (hs : sizeOf m < n + 1) (Wx : WX) : SndS G Wx (rdS G Wx m) (exS Fv gd wf m) := by
  intro ι F S H ρ σ D g e q
  cases m with
  | asg mg a =>
    unfold exS at q
    refine e_ok Z a Wx ι F S H ρ σ _ g e (q.bind e fun x S1 ι1 F1 H1 v l1 g1 r1 h1 => ?_)
    exact asg_ok Z g1 (e.le l1) r1 h1 fun ρ' S' ι' F' H' σ' l' g' e' h' => h'.next g' e'
  | asgT gs a =>
    unfold exS at q
    refine e_ok Z a Wx ι F S H ρ σ _ g e (q.bind e fun x S1 ι1 F1 H1 v l1 g1 r1 h1 => ?_)
    split at h1
    · rename_i ws hw
      obtain ⟨a, xs, rfl, qs, z, p⟩ := seqT_ok g1 r1 hw
      split at h1
      · rename_i hl
        exact ⟨a, xs, rfl, qs, by rw [← p.length]; exact hl, asgs_ok Z g1 (e.le l1) p h1 fun ρ' S' ι' F' H' σ' l' g' e' h' => h'.next g' e'⟩
      · exact h1.elim
    · exact h1.elim
  | par is es =>
    unfold exS at q
    split at q
    · rename_i hl
      have key : ∀ {ws : List W} {vs : List V} {ι1 : List Addr} {F1 H1 : Hp} {S1 : Sto}, GoodS G ι1 F1 S1 H1 → ER G ι1 F1 ρ σ → WRs G ι1 F1 ws vs → PostS G Wx ι1 F1 H1 (match setIs is ws ρ with | some ρ' => .next ρ' S1 | none => .bad) D → rdTgs is vs σ H1 D.nx := fun g1 e1 r1 h1 => by
        split at h1
        · rename_i ρ' hr
          exact (sets_ok hr r1 e1 fun σ' e' _ => h1.next g1 e').1
        · exact h1.elim
      match is, hl with
      | [i, j], _ =>
        refine es_ok Z es Wx ι F S H ρ σ _ g e (q.bind e fun ws S1 ι1 F1 H1 vs l1 g1 r1 h1 => ?_)
        obtain ⟨v, r, rfl, v2, r2, rfl, rfl, hq⟩ := key g1 (e.le l1) r1 h1
        exact ⟨v, v2, rfl, hq⟩
      | [i, j, l], _ =>
        refine es_ok Z es Wx ι F S H ρ σ _ g e (q.bind e fun ws S1 ι1 F1 H1 vs l1 g1 r1 h1 => ?_)
        obtain ⟨v, r, rfl, v2, r2, rfl, v3, r3, rfl, rfl, hq⟩ := key g1 (e.le l1) r1 h1
        exact ⟨v, v2, v3, rfl, hq⟩
    · exact q.elim
  | aug i o a =>
    unfold exS at q
    split at q
    · rename_i ho
      split at q
      · rename_i x hx
        obtain ⟨xv, hx1, hx2⟩ := e.get hx
        cases inv_int hx2
        refine ⟨_, hx1, e_ok Z a Wx ι F S H ρ σ _ g e (q.bind e fun y S1 ι1 F1 H1 v l1 g1 r1 h1 => ?_)⟩
        split at h1
        · cases inv_int r1
          split at h1
          · exact ⟨_, _, rfl, rfl, h1.next g1 ((e.le l1).set i (At.int _))⟩
          · exact ⟨_, _, rfl, rfl, h1.next g1 ((e.le l1).set i (At.int _))⟩
          · split at h1
            · rename_i hc
              exact ⟨_, _, rfl, rfl, hc, h1.next g1 ((e.le l1).set i (At.int _))⟩
            · exact h1.elim
          · exact h1.elim
        · exact h1.elim
      · exact q.elim
    · exact q.elim
  | rse c a =>
    unfold exS at q
    split at q
    · rename_i hc
      rw [Bool.and_eq_true] at hc
      have hv : G.hv c = true := by rw [← Z.gd.hv]; exact hc.1
      unfold rdS
      simp only [hv, if_true]
      refine e_ok Z a Wx ι F S H ρ σ _ g e (q.bind e fun w S1 ι1 F1 H1 v l1 g1 r1 h1 => ?_)
      intro d nd
      obtain ⟨g2, l2⟩ := g1.data (u := .xd [("value", v)]) nd
      refine h1 _ _ _ σ (some d) l2 g2 ((e.le l1).le l2) ?_
      unfold ExcAt
      rw [if_pos hv]
      exact ⟨d, v, rfl, upd_same, r1.le l2⟩
    · exact q.elim
  | expr a =>
    unfold exS at q
    refine e_ok Z a Wx ι F S H ρ σ _ g e (q.bind e fun x S1 ι1 F1 H1 v l1 g1 r1 h1 => ?_)
    exact h1.next g1 (e.le l1)
  | ret a =>
    unfold exS at q
    refine e_ok Z a Wx ι F S H ρ σ _ g e (q.bind e fun x S1 ι1 F1 H1 v l1 g1 r1 h1 => ?_)
    exact h1 _ _ _ _ (Le.refl ..) g1 r1
  | retN => exact q ι F H .non (Le.refl ..) g At.non
  | bad => exact q.elim
  | pass => exact q.next g e
  | brk => exact q ι F H σ (Le.refl ..) g e
  | cont => exact q ι F H σ (Le.refl ..) g e
  | ife c a b =>
    simp at hs
    unfold exS at q
    refine t_ok Z c Wx ι F S H ρ σ _ g e (q.bind e fun k S1 ι1 F1 H1 k' l1 g1 r1 h1 => ?_)
    cases (show k = k' from r1)
    cases k with
    | true => rw [if_pos rfl] at h1 ⊢; exact A.ss a (by omega) Wx ι1 F1 S1 H1 ρ σ D g1 (e.le l1) h1
    | false => rw [if_neg Bool.false_ne_true] at h1 ⊢; exact A.ss b (by omega) Wx ι1 F1 S1 H1 ρ σ D g1 (e.le l1) h1
  | tryAs body c slot suite =>
    simp at hs
    unfold exS at q
    have hb := fun W' => A.ss body (by omega) W' ι F S H ρ σ D g e
    have hsu := fun W' => A.ss suite (by omega) W'
    cases slot with
    | some i =>
      refine hb _ ?_
      cases hr : exSs Fv gd wf body ρ S with
      | exc c' w ρ' S' =>
        rw [hr] at q
        simp only at q
        intro ι' F' H' σ' d l g' e' x'
        split at q
        · rename_i hsub
          exact ⟨true, Z.gd.exm _ _ _ hsub, fun z => (nomatch z), fun _ => ⟨G.cl c', rfl, fun a na => suite_ok hsu q l g' e' x' na⟩⟩
        · rename_i hsub
          exact ⟨false, Z.gd.exm _ _ _ hsub, fun _ => q ι' F' H' σ' d l g' e' x', fun z => (nomatch z)⟩
        · exact q.elim
      | next ρ2 S2 => rw [hr] at q; exact q
      | brk ρ2 S2 => rw [hr] at q; exact q
      | cont ρ2 S2 => rw [hr] at q; exact q
      | ret w2 S2 => rw [hr] at q; exact q
      | bad => rw [hr] at q; exact q.elim
    | none =>
      refine hb _ ?_
      cases hr : exSs Fv gd wf body ρ S with
      | exc c' w ρ' S' =>
        rw [hr] at q
        simp only at q
        intro ι' F' H' σ' d l g' e' x'
        split at q
        · rename_i hsub
          refine ⟨true, Z.gd.exm _ _ _ hsub, fun _ a na => ?_, fun z => (nomatch z)⟩
          refine hsu _ ι' F' S' H' _ _ _ g' e' ?_
          have q2 := PostS.le l q
          change PostS G (fun _ _ _ _ => False) ι' F' H' (exSs Fv gd wf suite (slotSet none (some (.exn c' w)) ρ') S') D
          cases hr2 : exSs Fv gd wf suite (slotSet none (some (.exn c' w)) ρ') S' with
          | next ρ2 S2 => rw [hr2] at q2; exact q2
          | brk ρ2 S2 => rw [hr2] at q2; exact q2
          | cont ρ2 S2 => rw [hr2] at q2; exact q2
          | ret w2 S2 => rw [hr2] at q2; exact q2
          | exc c2 w2 ρ2 S2 => rw [hr2] at q2; exact q2.elim
          | bad => rw [hr2] at q2; exact q2.elim
        · rename_i hsub
          exact ⟨false, Z.gd.exm _ _ _ hsub, fun z => (nomatch z), fun _ => q ι' F' H' σ' d l g' e' x'⟩
        · exact q.elim
      | next ρ2 S2 => rw [hr] at q; exact q
      | brk ρ2 S2 => rw [hr] at q; exact q
      | cont ρ2 S2 => rw [hr] at q; exact q
      | ret w2 S2 => rw [hr] at q; exact q
      | bad => rw [hr] at q; exact q.elim
  | fors tg k src body =>
    simp at hs
    unfold exS at q
    refine lockS_ok g e q fun F H S D g e q => ?_
    split at q
    · rename_i hsh
      refine rdI_of hsh (es_ok Z src Wx ι F S H ρ σ _ g e (q.bind e fun ws S1 ι1 F1 H1 vs l1 g1 r1 h1 => ?_))
      split at h1
      · rename_i sr N hsr
        refine src_ok g1 r1 hsr fun J rs => ?_
        exact for_ok (A.ss body (by omega) Wx) (N + 1) g1 (e.le l1) rs h1
      · exact h1.elim
    · exact q.elim
  | whl c body =>
    simp at hs
    unfold exS at q
    exact while_ok (t_ok Z c Wx) (A.ss body (by omega) Wx) wf ι F S H ρ σ D g e q
theorem ss_step (Z : Glue G Fv gd) {wf : Nat} (A : AllB G Fv gd wf n) (m : MSs) (hs : sizeOf m < n + 1) (Wx : WX) : SndS G Wx (rdSs G Wx m) (exSs Fv gd wf m) := by
  intro ι F S H ρ σ D g e q
  cases m with
  | nil => exact q.next g e
  | cons a r =>
    simp at hs
    unfold exSs at q
    refine A.s a (by omega) Wx ι F S H ρ σ _ g e ?_
    cases hr : exS Fv gd wf a ρ S with
    | next ρ2 S2 =>
      rw [hr] at q
      exact fun ι2 F2 H2 σ2 l2 g2 e2 => A.ss r (by omega) Wx ι2 F2 S2 H2 ρ2 σ2 D g2 e2 (PostS.le l2 q)
    | brk ρ2 S2 => rw [hr] at q; exact q
    | cont ρ2 S2 => rw [hr] at q; exact q
    | ret w S2 => rw [hr] at q; exact q
    | exc c w ρ2 S2 => rw [hr] at q; exact q
    | bad => rw [hr] at q; exact q
theorem allB_ok (Z : Glue G Fv gd) (wf : Nat) : ∀ n, AllB G Fv gd wf n
  | 0 => ⟨fun _ h => by omega, fun _ h => by omega⟩
  | n + 1 => ⟨s_step Z (allB_ok Z wf n), ss_step Z (allB_ok Z wf n)⟩
theorem ss_ok (Z : Glue G Fv gd) (wf : Nat) (m : MSs) (Wx : WX) : SndS G Wx (rdSs G Wx m) (exSs Fv gd wf m) := (allB_ok Z wf _).ss m (Nat.lt_succ_self _) Wx
end
end MP
namespace MP
open PySem L2 PyProof.Rows PySem.Spec
/-! ## the end of a call: what was made within stands as data -/
section
variable {G : Gb} {ι ι0 : List Addr} {F H F0 H0 : Hp} {S : Sto}
noncomputable def frzF (ι : List Addr) (n : Nat) (F H : Hp) : Hp := fun a => by
  classical
  exact if a ∈ ι.drop n then H a else F a
theorem frzF_in {n : Nat} {a : Addr} (h : a ∈ ι.drop n) : frzF ι n F H a = H a := by unfold frzF; exact if_pos h
theorem frzF_out {n : Nat} {a : Addr} (h : a ∉ ι.drop n) : frzF ι n F H a = F a := by unfold frzF; exact if_neg h
theorem frzF_ex (g : GoodS G ι F S H) (n : Nat) : Ex F (frzF ι n F H) := fun a o h => by
  by_cases z : a ∈ ι.drop n
  · rw [frzF_in z]; exact g.ex a o h
  · rw [frzF_out z]; exact h
theorem closedW_ok {n : Nat} {F' : Hp} (ex : Ex F F') : ∀ {w : W} {v : V}, closedW n w = true → WR G ι F w v → WR G (ι.take n) F' w v
  | .d x, _, _, h => At.mono ex x h
  | .ref m, _, c, ⟨a, h1, h2⟩ => by
    have c' : m < n := of_decide_eq_true c
    exact ⟨a, by rw [List.getElem?_take_of_lt c']; exact h1, h2⟩
  | .ty _, _, _, h => h
  | .cls _, _, _, h => h
  | .exn c w, v, hc, ⟨a, hv, h⟩ => by
    refine ⟨a, hv, ?_⟩
    by_cases q : G.hv c = true
    · rw [if_pos q] at h ⊢
      obtain ⟨d, x, h1, h2, h3⟩ := h
      exact ⟨d, x, ex _ _ h1, ex _ _ h2, closedW_ok ex (show closedW n w = true from hc) h3⟩
    · rw [if_neg q] at h ⊢
      exact ex _ _ h
theorem closedL_ok {n : Nat} {F' : Hp} (ex : Ex F F') : ∀ {ws : List W} {vs : List V}, ws.all (closedW n) = true → WRs G ι F ws vs → WRs G (ι.take n) F' ws vs
  | [], _, _, .nil => .nil
  | w :: r, _, c, .cons h t => by
    rw [List.all_cons, Bool.and_eq_true] at c
    exact .cons (closedW_ok ex c.1 h) (closedL_ok ex c.2 t)
theorem closedK_ok {κ : Type} {n : Nat} {F' : Hp} (ex : Ex F F') : ∀ {ws : List (κ × W)} {vs : List (κ × V)}, (ws.all fun p => closedW n p.2) = true → KR G ι F ws vs → KR G (ι.take n) F' ws vs
  | [], _, _, .nil => .nil
  | w :: r, _, c, .cons h t => by
    rw [List.all_cons, Bool.and_eq_true] at c
    exact .cons ⟨h.1, closedW_ok ex c.1 h.2⟩ (closedK_ok ex c.2 t)
theorem frz_ok (g : GoodS G ι F S H) {n : Nat} : ∀ {w w' : W} {v : V}, frzW n S w = some w' → WR G ι F w v → WR G (ι.take n) (frzF ι n F H) w' v
  | .d x, _, _, e, h => by cases e; exact closedW_ok (frzF_ex g n) (w := .d x) rfl h
  | .ref m, _, v, e, h => by
    unfold frzW at e
    split at e
    · rename_i hm
      cases e
      exact closedW_ok (frzF_ex g n) (w := .ref m) (decide_eq_true hm) h
    · rw [Option.map_eq_some_iff] at e
      obtain ⟨x, e1, rfl⟩ := e
      exact rb_ok g (frzF_ex g n) (fun k a u hk ha hu => by
        rw [frzF_in ?_]
        · exact hu
        · obtain ⟨hl, e⟩ := List.getElem?_eq_some_iff.mp ha
          rw [List.mem_drop_iff_getElem]
          exact ⟨k - n, by omega, by rw [← e]; congr 1; omega⟩) _ _ _ _ e1 h
  | .ty t, _, _, e, h => by cases e; exact h
  | .cls t, _, _, e, h => by cases e; exact h
  | .exn c w, _, v, e, ⟨a, hv, h⟩ => by
    unfold frzW at e
    rw [Option.map_eq_some_iff] at e
    obtain ⟨x, e1, rfl⟩ := e
    refine ⟨a, hv, ?_⟩
    have ex := frzF_ex g n
    by_cases q : G.hv c = true
    · rw [if_pos q] at h ⊢
      obtain ⟨d, x, h1, h2, h3⟩ := h
      exact ⟨d, x, ex _ _ h1, ex _ _ h2, frz_ok g e1 h3⟩
    · rw [if_neg q] at h ⊢
      exact ex _ _ h
theorem leave_ok {raw : Bool} {w w' : W} {S' : Sto} (g : GoodS G ι F S H) (l : Le ι0 F0 H0 ι F H) {n : Nat} (hn : ι0.length = n) (e : leaveW raw n w S = .ok w' S') :
    ∃ ι' F', Le ι0 F0 H0 ι' F' H ∧ GoodS G ι' F' S' H ∧ Ex F F' ∧ ∀ v, WR G ι F w v → WR G ι' F' w' v := by
  unfold leaveW at e
  split at e
  · cases e
    exact ⟨ι, F, l, g, fun _ _ h => h, fun _ h => h⟩
  · split at e
    · rename_i hc
      split at e
      · rename_i x hx
        cases e
        have ex := frzF_ex g n
        have i0 : ι.take n = ι0 := by
          obtain ⟨r, rfl⟩ := l.pre
          rw [List.take_append_of_le_length (by omega), List.take_of_length_le (by omega)]
        have hl : n ≤ ι.length := by
          have := l.pre.length_le
          omega
        have apart : ∀ a ∈ ι.take n, a ∉ ι.drop n := fun a h1 h2 => by
          have nd := g.nd
          rw [← List.take_append_drop n ι, List.nodup_append] at nd
          exact nd.2.2 a h1 a h2 rfl
        refine ⟨ι.take n, frzF ι n F H, ⟨by rw [i0]; exact List.prefix_refl _, fun a o h => ex a o (l.ex a o h), l.dom, l.keep, fun a h1 h2 h3 => ?_, fun a h1 h2 => ?_, l.frz⟩, ⟨fun a o h => ?_, by rw [List.length_take, List.length_take, g.len], ?_, fun k o a h1 h2 => ?_, fun a ha => g.fr a (List.mem_of_mem_take ha)⟩, ex, fun v h => frz_ok g hx h⟩
        · have z : a ∉ ι.drop n := fun z => h3 (l.newL a (List.mem_of_mem_drop z) h1)
          rw [frzF_out z]; exact l.newF a h1 h2 h3
        · rw [i0] at h1; exact absurd h1 h2
        · by_cases z : a ∈ ι.drop n
          · rw [frzF_in z] at h; exact h
          · rw [frzF_out z] at h; exact g.ex a o h
        · exact List.Nodup.sublist (List.take_sublist _ _) g.nd
        · have hk : k < n := by
            have := (List.getElem?_eq_some_iff.mp h2).1
            rw [List.length_take] at this
            omega
          have h2' := h2
          rw [List.getElem?_take_of_lt hk] at h1 h2
          have ho := g.obj k o a h1 h2
          have co : closedO n o = true := by
            rw [List.all_eq_true] at hc
            exact hc o (List.mem_of_getElem? (by rw [List.getElem?_take_of_lt hk]; exact h1))
          have za : a ∉ ι.drop n := apart a (List.mem_of_getElem? h2')
          cases o with
          | lst ws => obtain ⟨f, xs, q1, q2, q3⟩ := ho; exact ⟨by rw [frzF_out za]; exact f, xs, q1, q2, closedL_ok ex co q3⟩
          | tup ws => obtain ⟨f, xs, q1, q2, q3⟩ := ho; exact ⟨by rw [frzF_out za]; exact f, xs, q1, q2, closedL_ok ex co q3⟩
          | dk kvs => obtain ⟨f, xs, q1, q3⟩ := ho; exact ⟨by rw [frzF_out za]; exact f, xs, q1, closedK_ok ex co q3⟩
          | dt kvs => obtain ⟨f, xs, q1, q3⟩ := ho; exact ⟨by rw [frzF_out za]; exact f, xs, q1, closedK_ok ex co q3⟩
          | lk kvs => obtain ⟨f, od, xs, q1, q3⟩ := ho; exact ⟨by rw [frzF_out za]; exact f, od, xs, q1, closedK_ok ex co q3⟩
          | ins c fs => obtain ⟨f, dx, xs, q1, q3⟩ := ho; exact ⟨by rw [frzF_out za]; exact f, dx, xs, q1, closedK_ok ex co q3⟩
          | dead => trivial
      · cases e
    · cases e
end
end MP
namespace MP
open PySem L2 PyProof.Rows PySem.Spec
/-- a def of the text: its name, the statement, its names (the parameters first) -/
structure Df where
  x : Str
  q : Str
  st : PySem.Stmt
  N : List Str
def dfOk (T : Tab) (d : Fn) (t : Df) : Bool :=
  chkSs T t.N (defScope t.st) d.body (defBody t.st) && decide (t.N.length = d.nn) && decide (d.np ≤ d.nn) && decide t.N.Nodup &&
  (match (defScope t.st).kind with | .function => true | _ => false) && !(defScope t.st).isCoroutine && !(defScope t.st).isGenerator &&
  ((t.N.take d.np).all fun x => match (defScope t.st).names.lookup x with | some .local => true | some .cell => true | _ => false) &&
  ((defScope t.st).names.all fun y => match y.2 with | .free => false | _ => true)
theorem dfOk_sc {T : Tab} {d : Fn} {t : Df} (h : dfOk T d t = true) : chkSs T t.N (defScope t.st) d.body (defBody t.st) = true ∧ t.N.length = d.nn ∧ FnScope t.N (t.N.take d.np) (defScope t.st) ∧ (t.N.take d.np).length = d.np := by
  unfold dfOk at h
  simp only [Bool.and_eq_true, decide_eq_true_eq, Bool.not_eq_true'] at h
  obtain ⟨⟨⟨⟨⟨⟨⟨⟨h1, h2⟩, h3⟩, h4⟩, h5⟩, h6⟩, h7⟩, h8⟩, h9⟩ := h
  have hl : (t.N.take d.np).length = d.np := by rw [List.length_take]; omega
  refine ⟨h1, h2, ⟨?_, h6, h7, h4, by rw [hl], fun x hx => ?_, fun y hy => ?_⟩, hl⟩
  · split at h5
    · assumption
    · cases h5
  · rw [List.all_eq_true] at h8
    have := h8 x hx
    split at this
    · exact .inl (by assumption)
    · exact .inr (by assumption)
    · cases this
  · rw [List.all_eq_true] at h9
    have := h9 y hy
    intro e
    rw [e] at this
    cases this
/-- what a call promises: what the reckoner reckons -/
def spMP (G0 : Gb) (fs : List Fn) (gd : Gd) (wf n f : Nat) : Sp := fun vs H Q E => ∃ ι F S ws, GoodS G0 ι F S H ∧ WRs G0 ι F ws vs ∧ Post G0 (RE G0) E ι F H (runF fs gd wf n f ws S) Q
abbrev gvAt (G0 : Gb) (fs : List Fn) (gd : Gd) (gv : Nat → V) (wf n : Nat) : Gv := { G0 with sp := spMP G0 fs gd wf n, gv := gv }
/-- what the written part says of the module -/
structure Ent (P : Program) (w : World) (G0 : Gb) (mg : Str → Option Value) (T : Tab) (fs : List Fn) (ts : List Df) (gd : Gd) (gv : Nat → V) : Prop where
  ok : ∀ (i : Nat) (d : Fn) (t : Df), fs[i]? = some d → ts[i]? = some t → dfOk T d t = true
  len : T.fns.length ≤ fs.length ∧ T.mths.length ≤ fs.length ∧ ts.length = fs.length
  fn : ∀ (i : Nat) (t : Df) (d : Fn), ts[i]? = some t → fs[i]? = some d → ∃ f fd, Fun G0.K t.x t.q t.st f fd ∧ Binds G0.K fd (t.N.take d.np) [] ∧ (∀ x, T.fns[i]? = some (some x) → mg x = some (.ref f)) ∧
    ∀ c m, T.mths[i]? = some (some (c, m)) → Cls G0.K (G0.co c) ∧ Meth G0.K (G0.co c) m f ∧ (m = "__init__" → Mk G0.K (G0.co c) f)
  glb : ∀ (i : Nat) (x : Str), T.glbs[i]? = some x → ∃ u, mg x = some u ∧ RelV (gv i) u
  gl : ∀ i ι F, WR G0 ι F (gd.v i) (gv i)
  gd : GdOk G0 gd
  cls : ∀ (i : Nat) (x : Str), T.cls[i]? = some x → mg x = some (.ref (G0.cl i)) ∧ ClF P G0.K (G0.cl i) (G0.hv i)
  kds : ∀ i x, T.kds[i]? = some x → mg x = some (.ref (G0.kd i)) ∧ ∃ es n, KDict G0.K w (G0.kd i) es n
  kls : ∀ c x, T.kls[c]? = some x → mg x = some (.ref (G0.co c))
  fds : ∀ c x, (c, x) ∈ T.fds → Cls G0.K (G0.co c) ∧ NoAttr G0.K (G0.co c) x
  cold : T.hot = false
  blt : ∀ b : Bi, mg b.name = none
  tys : ∀ t ∈ tyNames, mg (Str.ofString t) = none
  rng : mg "range" = none
  enu : mg "enumerate" = none
  zp : mg "zip" = none
section
variable {P : Program} {w : World} {G0 : Gb} {mg : Str → Option Value} {base : Heap} {T : Tab} {fs : List Fn} {ts : List Df} {gd : Gd} {gv : Nat → V} {wf : Nat}
theorem run_some {n f : Nat} {ws : List W} {S : Sto} {E : XK} {ι : List Addr} {F H : Hp} {Q : VK} (h : Post G0 (RE G0) E ι F H (runF fs gd wf n f ws S) Q) : ∃ k d, n = k + 1 ∧ fs[f]? = some d ∧ ws.length = d.np := by
  cases n with
  | zero => exact h.elim
  | succ k =>
    unfold runF at h
    split at h
    · exact h.elim
    · rename_i d hd
      split at h
      · rename_i hl
        exact ⟨k, d, rfl, hd, hl⟩
      · exact h.elim
theorem er_start {ι : List Addr} {F : Hp} {ws : List W} {vs : List V} (r : WRs G0 ι F ws vs) (m : Nat) : ER G0 ι F (ws.map some ++ List.replicate m none) (vs.map some ++ List.replicate m none) := by
  refine papp ?_ ?_
  · induction r with
    | nil => exact .nil
    | cons h t ih => exact .cons (fun w e => by cases e; exact ⟨_, rfl, h⟩) ih
  · induction m with
    | zero => exact .nil
    | succ m ih => exact .cons (fun w e => by cases e) ih
theorem fns_ok (Z : Ent P w G0 mg T fs ts gd gv) : ∀ (n i : Nat) (d : Fn) (t : Df) (f : Addr) (fd : FuncData), fs[i]? = some d → ts[i]? = some t → Fun G0.K t.x t.q t.st f fd → MPX.FnG P w G0.K mg base (L2.CX P w) (2 * n) f fd (t.N.take d.np) (spMP G0 fs gd wf n i)
  | 0, i, d, t, f, fd, hd, ht, F => ⟨fun vs H Q E h => by obtain ⟨ι, F, S, ws, _, _, h⟩ := h; exact h.elim, fun A outer s H args us vs Q E _ _ _ _ _ h => by obtain ⟨ι, F, S, ws, _, _, h⟩ := h; exact h.elim⟩
  | n + 1, i, d, t, f, fd, hd, ht, F => by
    obtain ⟨hchk, hnn, hsc, hnp⟩ := dfOk_sc (Z.ok i d t hd ht)
    have ih := fns_ok Z n
    show MPX.FnG P w G0.K mg base (L2.CX P w) (2 * n + 1 + 1) f fd (t.N.take d.np) (spMP G0 fs gd wf (n + 1) i)
    refine MPX.fnG_of F hsc (fun vs H Q E h => ?_) (fun cdv A outer s H vs Q E hr gds h => ?_)
    · obtain ⟨ι, F, S, ws, g, r, h⟩ := h
      obtain ⟨k, d', _, hd', hl⟩ := run_some h
      rw [hd] at hd'
      cases hd'
      rw [hnp, ← hl, r.length]
    · obtain ⟨ι, F', S, ws, g, r, h⟩ := h
      have G : Gv := gvAt G0 fs gd gv wf n
      have C : SxOk T (gvAt G0 fs gd gv wf n) (2 * n) t.N (defScope t.st) (cxOf (L2.CX P w) P w G0.K mg base t.N t.q (defScope t.st) f cdv A outer s H E) := {
        hN := rfl
        nd := hsc.nd
        hsc := rfl
        hK := rfl
        calm := fun _ => rfl
        room1 := fun _ => hr
        hu := by
          have := hr.un
          show (A.deeper _).units + 65 < cLine
          omega
        gds := gds
        fn := fun j x hx => by
          have hj := (List.getElem?_eq_some_iff.mp hx).1
          obtain ⟨l1, l2, l3⟩ := Z.len
          have hd' : fs[j]? = some fs[j] := List.getElem?_eq_getElem (by omega)
          have ht' : ts[j]? = some ts[j] := List.getElem?_eq_getElem (by omega)
          obtain ⟨f', fd', F1, b1, m1, _⟩ := Z.fn j _ _ ht' hd'
          exact ⟨f', fd', _, m1 x hx, F1.kp, b1, ih j _ _ f' fd' hd' ht' F1⟩
        mth := fun j c m hx => by
          have hj := (List.getElem?_eq_some_iff.mp hx).1
          obtain ⟨l1, l2, l3⟩ := Z.len
          have hd' : fs[j]? = some fs[j] := List.getElem?_eq_getElem (by omega)
          have ht' : ts[j]? = some ts[j] := List.getElem?_eq_getElem (by omega)
          obtain ⟨f', fd', F1, b1, _, m1⟩ := Z.fn j _ _ ht' hd'
          obtain ⟨c1, c2, c3⟩ := m1 c m hx
          exact ⟨c1, f', fd', _, c2, c3, b1, ih j _ _ f' fd' hd' ht' F1⟩
        kds := Z.kds
        kls := Z.kls
        fds := Z.fds
        glb := Z.glb
        cls := Z.cls
        blt := Z.blt
        tys := Z.tys
        rng := Z.rng
        enu := Z.enu
        zp := Z.zp
        fnA := fun _ => rfl
        hp := passes_of rfl
        hst := rfl
        hfr := rfl
        hex := rfl
        hbk := by
          show Env.blockKind (envOfC t.q (defScope t.st) s.heap.objs.size f cdv) = .function
          have hk : (envOfC t.q (defScope t.st) s.heap.objs.size f cdv).scope.kind = .function := hsc.kind
          unfold Env.blockKind
          rw [hk]
          rfl }
      refine ⟨_, pss_ok C (takes_of rfl rfl rfl rfl) hchk, ?_⟩
      have glue : Glue (gvAt G0 fs gd gv wf n) (runF fs gd wf n) gd := ⟨fun f ws vs ι F S H Q E g r h => ⟨ι, F, S, ws, g, r, h⟩, Z.gl, Z.gd⟩
      obtain ⟨k, d', hk, hd', hl⟩ := run_some h
      cases hk
      rw [hd] at hd'
      cases hd'
      unfold runF at h
      rw [hd] at h
      simp only [hl, if_true] at h
      have hm : d.nn - d.np = t.N.length - vs.length := by rw [hnn, ← hl, r.length]
      rw [hm] at h
      refine ss_ok glue wf d.body _ ι F' S H _ _ _ g (er_start r (t.N.length - vs.length)) ?_
      cases hres : exSs (runF fs gd wf n) gd wf d.body (ws.map some ++ List.replicate (t.N.length - vs.length) none) S with
      | ret w' S' =>
        rw [hres] at h
        intro ι1 F1 H1 v l1 g1 r1
        dsimp only at h
        cases e : leaveW d.raw S.length w' S' with
        | ok w2 S2 =>
          rw [e] at h
          obtain ⟨ι2, F2, l2, g2, _, q⟩ := leave_ok g1 l1 g.len e
          exact h ι2 F2 H1 v l2 g2 (q v r1)
        | exc c w S => unfold leaveW at e; repeat (split at e <;> first | (cases e; done) | skip)
        | bad => rw [e] at h; exact h.elim
      | next ρ S' =>
        rw [hres] at h
        intro ι1 F1 H1 σ1 l1 g1 r1
        dsimp only at h
        cases e : leaveW d.raw S.length (.d .none) S' with
        | ok w2 S2 =>
          rw [e] at h
          obtain ⟨ι2, F2, l2, g2, _, q⟩ := leave_ok g1 l1 g.len e
          exact h ι2 F2 H1 .non l2 g2 (q .non At.non)
        | exc c w S => unfold leaveW at e; repeat (split at e <;> first | (cases e; done) | skip)
        | bad => rw [e] at h; exact h.elim
      | exc c w' ρ S' =>
        rw [hres] at h
        intro ι1 F1 H1 σ1 dd l1 g1 r1 x1
        dsimp only at h
        cases e : leaveW false S.length w' S' with
        | ok w2 S2 =>
          rw [e] at h
          obtain ⟨ι2, F2, l2, g2, ex, q⟩ := leave_ok g1 l1 g.len e
          refine h ι2 F2 H1 dd l2 g2 ?_
          unfold ExcAt at x1 ⊢
          by_cases hv : G0.hv c = true
          · rw [if_pos hv] at x1 ⊢
            obtain ⟨a, x, h1, h2, h3⟩ := x1
            exact ⟨a, x, h1, ex _ _ h2, q _ h3⟩
          · rw [if_neg hv] at x1 ⊢
            exact x1
        | exc c w S => rw [e] at h; exact h.elim
        | bad => rw [e] at h; exact h.elim
      | brk ρ S' => rw [hres] at h; exact h.elim
      | cont ρ S' => rw [hres] at h; exact h.elim
      | bad => rw [hres] at h; exact h.elim
end
end MP
namespace MP
open PySem L2 PyProof.Rows PySem.Spec PySem.W
/-! ## from the written part -/
def clOf (K : Frag) (x : Str) : Addr := match nsIn K mainGlobals x with | some (some (.ref C)) => C | _ => 0
def gvOf (K : Frag) (x : Str) : V := match nsIn K mainGlobals x with | some (some u) => (absV u).getD .non | _ => .non
def g0Of (T : Tab) (gd : Gd) (K : Frag) : Gb := { K := K, cl := fun i => clOf K (T.cls.getD i ""), hv := gd.hv, co := fun i => clOf K (T.kls.getD i ""), kd := fun i => clOf K (T.kds.getD i "") }
def gvsOf (T : Tab) (K : Frag) : Nat → V := fun i => match T.glbs[i]? with | some x => gvOf K x | none => .non
theorem ints_at {K : Frag} {F : Hp} : ∀ ns : List Int, AtL K F (ns.map V.int) (ns.map PyData.int)
  | [] => .nil
  | _ :: r => .cons (.int _) (ints_at r)
/-- THE END: what the reckoner reckons at every script is what the law says -/
theorem walk {l : OpenLaw} {q : Program} {loose : List Str} {XP : (Str → Option Value) → Heap → Prop} {YP : World → Heap → Prop} {d : DefRec} {K : Params → Frag} (T : Tab) (fs : List Fn) (ts : List Df) (gd : Gd) (wf k iL : Nat)
    (hn : l.most = some 63) (hdf : d.params.defaults = []) (hr : Room (2 * k) callerA) (hY : ∀ (w : World) (h : Heap), YP w h → (K w.params).In h)
    (hlaw : ∀ ns : List Int, ns.length ≤ 63 → ∃ S, runF fs gd wf k iL [.d (.list (ns.map .int))] [] = .ok (.d (.bool true)) S)
    (hd : ∃ dL tL, fs[iL]? = some dL ∧ ts[iL]? = some tL ∧ T.fns[iL]? = some (some d.name) ∧ tL.N.take dL.np = [("script" : Str)])
    (F : ∀ (w : World) (mg : Str → Option Value) (h : Heap), (K w.params).In h → h.Ns mainGlobals mg → Ent l.prog w (g0Of T gd (K w.params)) mg T fs ts gd (gvsOf T (K w.params)))
    (hb : ∀ (w : World) (f : Addr) (fd : FuncData) (dL : Fn) (tL : Df), fs[iL]? = some dL → ts[iL]? = some tL → Fun (K w.params) tL.x tL.q tL.st f fd → ∀ (s : Shared) (u : Value), BindsTo s fd ⟨[u], []⟩ [("script", u)]) :
    WalkO q loose XP YP l.row.toRowW d [] (fun f vs => PySem.call f vs) := by
  obtain ⟨dL, tL, h1, h2, h3, h4⟩ := hd
  refine MPX.walkG (n := 63) (k := 2 * k) (x := "script") (cx := fun w => L2.CX l.prog w) (sp := fun w => spMP (g0Of T gd (K w.params)) fs gd wf k iL) hn (by decide) hdf hr hY (fun w mg fa h KX G hmg => ?_) (fun w H a ns hl _ hS => ?_) (fun w H s e s' z => ?_)
  · have Z := F w mg h KX G
    obtain ⟨f, fd, F1, b1, m0, _⟩ := Z.fn iL tL dL h2 h1
    have m1 := m0 _ h3
    rw [hmg] at m1
    cases m1
    refine ⟨fd, fun s u => hb w fa fd dL tL h1 h2 F1 s u, fun base KB GB => ?_⟩
    have := fns_ok (base := base) (wf := wf) Z k iL dL tL fa fd h1 h2 F1
    rw [h4] at this
    exact this
  · obtain ⟨S, hrun⟩ := hlaw ns hl
    refine ⟨[], H, [], [.d (.list (ns.map .int))], ⟨fun _ _ h => h, rfl, List.nodup_nil, fun n o a h _ => by simp at h, fun a h => by simp at h⟩, .cons (At.lst hS (by rw [List.length_map]; exact Nat.le_trans hl (by decide)) (ints_at ns)) .nil, ?_⟩
    rw [hrun]
    intro ι' F' H' v _ _ r
    exact inv_bl r
  · obtain ⟨_, _, _, _, _, _, _, _, _, _, _, _, z⟩ := z
    exact z
end MP
namespace MP
open PySem L2 PyProof.Rows PySem.Spec PySem.W
/-! ## an own error's class, as the written part has it -/
def bodyPos : List PySem.Stmt → Nat → Pos
  | [.Expr (.Call (.Attribute (.Call (.Name _ p0) _ _ p1) _ p2) _ _ p3) p4, .Assign [.Attribute (.Name _ p5) _ p6] (.Name _ p7) p8], n => [p0, p1, p2, p3, p4, p5, p6, p7, p8].getD n p0
  | _, _ => ⟨0, 0, 0, 0⟩
def parPos : Arguments → Nat → Pos
  | ⟨_, [a, b], _, _, _, _, [.Constant _ _ p]⟩, n => [a.pos, b.pos, p].getD n p
  | _, _ => ⟨0, 0, 0, 0⟩
def sxB (K : Frag) (C : Addr) : Bool :=
  decide (findIn K (.ref C) "__setattr__" = some (some (.builtin "object.__setattr__"))) && decide (findIn K (.ref C) "value" = some none) && keepIn K (.ref C) && decide (subIn K (.ref C) (.type "BaseException") = some true) &&
  decide (typeIn K (.ref C) = some (.type "type")) && decide (subIn K (.ref C) (.type "ValueError") = some true) && decide (mroIn K C (.ref C) = some true) && decide (ks_superIn K C C "__init__" = some (some (.builtin "ValueError.__init__"))) &&
  excInitIn K C PySem.HandSPX.veTail "ValueError.__new__" && decide (nsIn K cStatics "thirdparty.any" = some none) && decide (nsIn K mainGlobals "super" = some none)
theorem sx_mk {prog : Program} {K : Frag} {st : PySem.Stmt} {C fI cc cda td : Addr} {nm qn : Str} {N : Addr} {bs bm : List Value} {sn : List Str} {sub : List Value} {ab : Bool} {col : Option Bool} {dd : Option Addr} {k0 k1 k2 k3 k5 : Option Value}
    {q : Str} {oc doc pm ct ccl cl to : Value} {od an cdd cld tod : Option Addr} {osl ccs csl tsl : Array (Option Value)} {vs : Array Value} {file : Str} {tf : Tok} {tn : Nat}
    (hB : defBody st = MPX.iBody (bodyPos (defBody st))) (hP : defArgs st = MPX.iPar (parPos (defArgs st))) (hS : defScope st = MPX.iSc) (hL : ((bodyPos (defBody st) 2).endLine == (bodyPos (defBody st) 3).line) = true) (top : (prog.main.scope.names.lookup ("super" : Str)).isSome = false)
    (lC : K.lookup C = some (excClassObj nm qn C N bs bm true sn sub ab col dd k0 k1 k2 k3 k5 "ValueError.__new__")) (rv : PySem.HandSPX.refsVE bm = true) (b : sxB K C = true)
    (i1 : findIn K (.ref C) "__init__" = some (some (.ref fI))) (ti : typeIn K (.ref fI) = some (.type "function"))
    (lf : K.lookup fI = some ⟨oc, od, .func (ksFn "__init__" q (defArgs st) (defBody st) (defScope st) (.ref td) .none doc pm an (.ref cda) ct cc), osl⟩) (cq : codeIn K (.ref cda) q = true)
    (lc : K.lookup cda = some ⟨ccl, cdd, .fields vs, ccs⟩) (hvs : vs[2]? = some (.str file tf)) (hf : ((prog.main.file : Str) == file) = true) (lcell : K.lookup cc = some ⟨cl, cld, .cell (some (.ref C)), csl⟩) (ltd : K.lookup td = some ⟨to, tod, .seq #[.none] tn, tsl⟩) : MPX.SxT prog K C := by
  unfold sxB at b
  simp only [Bool.and_eq_true, decide_eq_true_eq] at b
  obtain ⟨⟨⟨⟨⟨⟨⟨⟨⟨⟨b1, b2⟩, b3⟩, b4⟩, b5⟩, b6⟩, b7⟩, b8⟩, b9⟩, b10⟩, b11⟩ := b
  rw [hB, hP, hS] at lf
  exact ⟨⟨nm, qn, N, bs, bm, sn, sub, ab, col, dd, k0, k1, k2, k3, k5, lC, rv⟩, b1, b2, b3, b4, b5, b6, b7, b8, b9, b10, b11, top,
    ⟨fI, cc, cda, q, oc, od, td, doc, pm, an, ct, osl, _, _, i1, ti, lf, cq, hL, ⟨ccl, cdd, vs, ccs, file, tf, lc, hvs, hf⟩, ⟨cl, cld, csl, lcell⟩, ⟨to, tod, tsl, tn, ltd⟩⟩⟩
/-- what isinstance, == and .value ask of the errors' classes -/
def exB (K : Frag) (C : Addr) (v : Bool) : Bool :=
  decide (findIn K (.ref C) "__getattribute__" = some (some (.builtin "BaseException.__getattribute__"))) && decide (findIn K (.ref C) "__getattr__" = some none) && decide (subIn K (.ref C) (.type "BaseException") = some true) && hasDictIn K C &&
  decide (findIn K (.ref C) "__class__" = some (some (.builtin "object.__class__"))) && decide (specialIn K (.builtin "object.__class__") "__get__" = some (some (.builtin "getset_descriptor.__get__"))) && decide (takesIn K (.builtin "object.__class__") = some true) &&
  decide (mroIn K C (.type "object") = some true) && decide (findIn K (.ref C) "__eq__" = some (some (.builtin "object.__eq__"))) && (!v || decide (findIn K (.ref C) "value" = some none))
def kitB (K : Frag) (n : Nat) (cl : Nat → Addr) (gd : Gd) : Bool :=
  (List.range n).all fun c => exB K (cl c) (gd.hv c) && decide (gd.sub c (.ty "ValueError") = kitOne K (.ref (cl c)) (.type "ValueError")) && ((List.range n).all fun j => decide (gd.sub c (.own j) = kitOne K (.ref (cl c)) (.ref (cl j))) && decide (gd.sub c (.own j) = exmOne K (.ref (cl c)) (.ref (cl j)))) &&
    (tyAll.all fun a => decide (kitOne K (.type a) (.ref (cl c)) = some false))
theorem gdOk_mk {K : Frag} {G : Gb} {gd : Gd} {n : Nat} (hK : G.K = K) (hv : ∀ c, gd.hv c = G.hv c) (hex : ∀ c, gd.ex c = true → c < n) (hsub : ∀ c t b, gd.sub c t = some b → c < n ∧ gd.ex c = true ∧ match t with | .own j => j < n | .ty s => s = "ValueError")
    (h : kitB K n G.cl gd = true) (hkd : ∀ i l, gd.kd i = some l → ∀ z : Str, (l.lookup z = none → nsIn G.K (G.kd i) z = some none) ∧ ∀ p, l.lookup z = some p → ∃ u v, nsIn G.K (G.kd i) z = some (some u) ∧ RelV v u ∧ ∀ F, At G.K F v p) : GdOk G gd := by
  subst hK
  unfold kitB at h
  have key : ∀ c, c < n → exB G.K (G.cl c) (gd.hv c) = true ∧ gd.sub c (.ty "ValueError") = kitOne G.K (.ref (G.cl c)) (.type "ValueError") ∧ (∀ j, j < n → gd.sub c (.own j) = kitOne G.K (.ref (G.cl c)) (.ref (G.cl j)) ∧ gd.sub c (.own j) = exmOne G.K (.ref (G.cl c)) (.ref (G.cl j))) ∧ ∀ a ∈ tyAll, kitOne G.K (.type a) (.ref (G.cl c)) = some false := fun c hc => by
    rw [List.all_eq_true] at h
    have := h c (List.mem_range.mpr hc)
    simp only [Bool.and_eq_true, decide_eq_true_eq, List.all_eq_true, List.mem_range] at this
    exact ⟨this.1.1.1, this.1.1.2, this.1.2, this.2⟩
  refine ⟨hv, fun c hc => ?_, fun c t b e => ?_, fun a ha j hj => (key j (hex j hj)).2.2.2 a ha, fun c j b e => ?_, hkd⟩
  · have e := (key c (hex c hc)).1
    unfold exB at e
    simp only [Bool.and_eq_true, decide_eq_true_eq, Bool.or_eq_true, Bool.not_eq_true'] at e
    obtain ⟨⟨⟨⟨⟨⟨⟨⟨⟨e1, e2⟩, e3⟩, e4⟩, e5⟩, e6⟩, e7⟩, e8⟩, e9⟩, e10⟩ := e
    refine ⟨⟨e1, e2, e3, e4, e5, e6, e7, e8⟩, fun v => ⟨⟨e1, e2, e3, e4⟩, ?_⟩, e8, e9⟩
    rcases e10 with z | z
    · rw [hv, v] at z; cases z
    · exact z
  · obtain ⟨h1, h2, h3⟩ := hsub c t b e
    refine ⟨h2, ?_⟩
    cases t with
    | own j => rw [← ((key c h1).2.2.1 j h3).1]; exact e
    | ty s =>
      have h3 : s = "ValueError" := h3
      subst h3
      rw [← (key c h1).2.1]; exact e
  · obtain ⟨h1, h2, h3⟩ := hsub c (.own j) b e
    rw [← ((key c h1).2.2.1 j h3).2]; exact e
end MP
namespace MP
open PySem L2 PyProof.Rows PySem.Spec PySem.W
structure FnF (K : Frag) (t : Df) : Prop where
  ex : ∃ (f : Addr) (oc kV doc pm cdv ct : Value) (od an : Option Addr) (osl : Array (Option Value)), nsIn K mainGlobals t.x = some (some (.ref f)) ∧
    K.lookup f = some ⟨oc, od, .func (fnOf t.x t.q (defArgs t.st) (defBody t.st) (defScope t.st) .none kV doc pm an cdv ct), osl⟩ ∧ codeIn K cdv t.q = true ∧ keepIn K (.ref f) = true
theorem fnF_mk {K : Frag} {t : Df} {f : Addr} {oc kV doc pm cdv ct : Value} {od an : Option Addr} {osl : Array (Option Value)} (a : nsIn K mainGlobals t.x = some (some (.ref f)))
    (l : K.lookup f = some ⟨oc, od, .func (fnOf t.x t.q (defArgs t.st) (defBody t.st) (defScope t.st) .none kV doc pm an cdv ct), osl⟩) (c : codeIn K cdv t.q = true) (k : keepIn K (.ref f) = true) : FnF K t := ⟨⟨f, oc, kV, doc, pm, cdv, ct, od, an, osl, a, l, c, k⟩⟩
/-- a method of the class x -/
structure MtF (K : Frag) (x : Str) (t : Df) : Prop where
  ex : ∃ (C f : Addr) (oc kV doc pm cdv ct : Value) (od an : Option Addr) (osl : Array (Option Value)), nsIn K mainGlobals x = some (some (.ref C)) ∧ findIn K (.ref C) t.x = some (some (.ref f)) ∧
    K.lookup f = some ⟨oc, od, .func (fnOf t.x t.q (defArgs t.st) (defBody t.st) (defScope t.st) .none kV doc pm an cdv ct), osl⟩ ∧ codeIn K cdv t.q = true ∧ keepIn K (.ref f) = true ∧ isFn K (.ref f) = true
theorem mtF_mk {K : Frag} {x : Str} {C : Addr} {t : Df} {f : Addr} {oc kV doc pm cdv ct : Value} {od an : Option Addr} {osl : Array (Option Value)} (n : nsIn K mainGlobals x = some (some (.ref C))) (a : findIn K (.ref C) t.x = some (some (.ref f)))
    (l : K.lookup f = some ⟨oc, od, .func (fnOf t.x t.q (defArgs t.st) (defBody t.st) (defScope t.st) .none kV doc pm an cdv ct), osl⟩) (c : codeIn K cdv t.q = true) (k : keepIn K (.ref f) = true) (i : isFn K (.ref f) = true) : MtF K x t := ⟨⟨C, f, oc, kV, doc, pm, cdv, ct, od, an, osl, n, a, l, c, k, i⟩⟩
structure ClX (prog : Program) (K : Frag) (x : Str) (v : Bool) : Prop where
  ex : ∃ C, nsIn K mainGlobals x = some (some (.ref C)) ∧ ClF prog K C v
theorem clX0 {prog : Program} {K : Frag} {x : Str} {C : Addr} (a : nsIn K mainGlobals x = some (some (.ref C))) (k : keepIn K (.ref C) = true) (e : excIn K C PySem.HandSPX.veTail "ValueError.__new__" = true) : ClX prog K x false := ⟨⟨C, a, k, e⟩⟩
theorem clX1 {prog : Program} {K : Frag} {x : Str} {C : Addr} (a : nsIn K mainGlobals x = some (some (.ref C))) (s : MPX.SxT prog K C) : ClX prog K x true := ⟨⟨C, a, s.kC, s⟩⟩
/-- an own class that is no error, and its fields -/
def klB (K : Frag) (C : Addr) (fds : List Str) : Bool :=
  plainGet K C Str.empty && hasDictIn K C && plainOver K C && decide (findIn K (.ref C) "__setattr__" = some (some (.builtin "object.__setattr__"))) && makesIn K C && keepIn K (.ref C) && fds.all fun f => decide (findIn K (.ref C) f = some none)
structure KlX (K : Frag) (x : Str) (fds : List Str) : Prop where
  ex : ∃ C, nsIn K mainGlobals x = some (some (.ref C)) ∧ klB K C fds = true
theorem klX_mk {K : Frag} {x : Str} {fds : List Str} {C : Addr} (a : nsIn K mainGlobals x = some (some (.ref C))) (b : klB K C fds = true) : KlX K x fds := ⟨⟨C, a, b⟩⟩
/-! a dict of the module with texts as keys, flat data as values -/
def valB : Value → PyData → Bool
  | .none, .none => true
  | .bool b, .bool c => b == c
  | .int i _, .int j => decide (i = j)
  | .str x _, .str y => decide (x = y)
  | _, _ => false
def kdB : List DictEntry → List (Str × PyData) → Bool
  | [], [] => true
  | e :: es, (x, p) :: l => (match e.key with | .str y _ => decide (y = x) | _ => false) && valB e.val p && kdB es l
  | _, _ => false
theorem valB_ok {u : Value} {p : PyData} (h : valB u p = true) : ∃ v, RelV v u ∧ ∀ K F, At K F v p := by
  unfold valB at h
  split at h
  · exact ⟨.non, rfl, fun _ _ => .non⟩
  · cases eq_of_beq h; exact ⟨.bl _, rfl, fun _ _ => .bl _⟩
  · cases of_decide_eq_true h; exact ⟨.int _, ⟨_, rfl⟩, fun _ _ => .int _⟩
  · cases of_decide_eq_true h; exact ⟨.str _, ⟨_, rfl⟩, fun _ _ => .str _⟩
  · cases h
theorem isStr_eq {y z : Str} {t : Tok} : (Value.str y t).isStr z = (z == y) := by
  show (y == z) = (z == y)
  rw [Bool.eq_iff_iff, beq_iff_eq, beq_iff_eq]
  exact eq_comm
theorem kdB_find {z : Str} : ∀ {es : List DictEntry} {l : List (Str × PyData)}, kdB es l = true → es.any (·.refKey) = false ∧ (l.lookup z = none → es.find? (·.key.isStr z) = none) ∧ ∀ p, l.lookup z = some p → ∃ e, es.find? (·.key.isStr z) = some e ∧ valB e.val p = true
  | [], [], _ => ⟨rfl, fun _ => rfl, fun p h => by cases h⟩
  | e :: es, (x, p) :: l, h => by
    unfold kdB at h
    simp only [Bool.and_eq_true] at h
    obtain ⟨⟨h1, h2⟩, h3⟩ := h
    obtain ⟨r1, r2, r3⟩ := kdB_find (z := z) h3
    cases hk : e.key <;> (rw [hk] at h1; try (cases h1; done))
    rename_i y t
    have hy : y = x := of_decide_eq_true h1
    subst hy
    have nr : e.refKey = false := by unfold DictEntry.refKey; rw [hk]
    refine ⟨by rw [List.any_cons, nr, r1]; rfl, ?_, ?_⟩
    · rw [List.lookup_cons, List.find?_cons, hk, isStr_eq]
      cases z == y with
      | true => intro q; cases q
      | false => exact r2
    · rw [List.lookup_cons, List.find?_cons, hk, isStr_eq]
      cases z == y with
      | true => intro q e'; cases e'; exact ⟨e, rfl, h2⟩
      | false => exact r3
  | [], _ :: _, h => by simp [kdB] at h
  | _ :: _, [], h => by simp [kdB] at h
structure KdX (w : World) (K : Frag) (x : Str) (l : List (Str × PyData)) : Prop where
  ex : ∃ (d : Addr) (cl : Value) (od : Option Addr) (es : Array DictEntry) (n : Nat) (sl : Array (Option Value)), nsIn K mainGlobals x = some (some (.ref d)) ∧ K.lookup d = some ⟨cl, od, .dict es n, sl⟩ ∧ kdB es.toList l = true ∧ He.dicW K d = some (He.keysIn w.params (l.map (·.1)))
theorem kdX_mk {w : World} {K : Frag} {x : Str} {l : List (Str × PyData)} {d : Addr} {cl : Value} {od : Option Addr} {es : Array DictEntry} {n : Nat} {sl : Array (Option Value)} (a : nsIn K mainGlobals x = some (some (.ref d))) (b : K.lookup d = some ⟨cl, od, .dict es n, sl⟩) (c : kdB es.toList l = true) (e : He.dicW K d = some (He.keysIn w.params (l.map (·.1)))) : KdX w K x l := ⟨⟨d, cl, od, es, n, sl, a, b, c, e⟩⟩
def GlOk (G0 : Gb) (w : W) (x : Str) : Prop := ∃ u v, nsIn G0.K mainGlobals x = some (some u) ∧ absV u = some v ∧ RelV v u ∧ ∀ ι F, WR G0 ι F w v
theorem clOf_eq {K : Frag} {x : Str} {C : Addr} (a : nsIn K mainGlobals x = some (some (.ref C))) : clOf K x = C := by unfold clOf; rw [a]
theorem KdX.look {w : World} {K : Frag} {x : Str} {l : List (Str × PyData)} (h : KdX w K x l) (z : Str) : (l.lookup z = none → nsIn K (clOf K x) z = some none) ∧ ∀ p, l.lookup z = some p → ∃ u v, nsIn K (clOf K x) z = some (some u) ∧ RelV v u ∧ ∀ F, At K F v p := by
  obtain ⟨d, cl, od, es, n, sl, a, b, c, e⟩ := h.ex
  rw [clOf_eq a]
  obtain ⟨h1, h2, h3⟩ := kdB_find (z := z) c
  refine ⟨fun q => ?_, fun p q => ?_⟩
  · unfold nsIn
    rw [b]
    simp only [h2 q, h1]
    rfl
  · obtain ⟨e, e1, e2⟩ := h3 p q
    obtain ⟨v, r, k⟩ := valB_ok e2
    refine ⟨e.val, v, ?_, r, k K⟩
    unfold nsIn
    rw [b]
    simp only [e1]
theorem gl_cls {prog : Program} {T : Tab} {gd : Gd} {K : Frag} {x : Str} {j : Nat} {v : Bool} (c : ClX prog K x v) (e : T.cls.getD j "" = x) : GlOk (g0Of T gd K) (.cls j) x := by
  obtain ⟨C, a, _⟩ := c.ex
  refine ⟨.ref C, .ref C, a, rfl, rfl, fun ι F => ?_⟩
  show V.ref C = V.ref (clOf K (T.cls.getD j ""))
  rw [e, clOf_eq a]
theorem no_at {α : Type} {l : List (Option α)} {i : Nat} (h : l[i]? = some none) : ∀ p, l[i]? ≠ some (some p) := fun p e => by rw [h] at e; cases e
/-! constants -/
theorem gl_int {T : Tab} {gd : Gd} {K : Frag} {x : Str} {i : Int} {t : Tok} (a : nsIn K mainGlobals x = some (some (.int i t))) : GlOk (g0Of T gd K) (.d (.int i)) x := ⟨_, .int i, a, rfl, ⟨t, rfl⟩, fun _ _ => At.int i⟩
theorem gl_str {T : Tab} {gd : Gd} {K : Frag} {x z : Str} {t : Tok} (a : nsIn K mainGlobals x = some (some (.str z t))) : GlOk (g0Of T gd K) (.d (.str z)) x := ⟨_, .str z, a, rfl, ⟨t, rfl⟩, fun _ _ => At.str z⟩
def valsB : List Value → List PyData → Bool
  | [], [] => true
  | u :: us, p :: ps => valB u p && valsB us ps
  | _, _ => false
theorem valsB_ok : ∀ {us : List Value} {ps : List PyData}, valsB us ps = true → ∃ xs, Vals xs us ∧ ∀ K F, AtL K F xs ps
  | [], [], _ => ⟨[], .nil, fun _ _ => .nil⟩
  | u :: us, p :: ps, h => by
    unfold valsB at h
    rw [Bool.and_eq_true] at h
    obtain ⟨v, r, k⟩ := valB_ok h.1
    obtain ⟨xs, rs, ks⟩ := valsB_ok h.2
    exact ⟨v :: xs, .cons r rs, fun K F => .cons (k K F) (ks K F)⟩
  | [], _ :: _, h => by simp [valsB] at h
  | _ :: _, [], h => by simp [valsB] at h
theorem gl_lst {T : Tab} {gd : Gd} {K : Frag} {x : Str} {ps : List PyData} {ad : Addr} {its : Array Value} {n : Nat} {sl : Array (Option Value)} (a : nsIn K mainGlobals x = some (some (.ref ad))) (l : K.lookup ad = some ⟨.type "list", none, .seq its n, sl⟩) (b : valsB its.toList ps = true) (hz : decide (its.size ≤ 1000) = true) :
    GlOk (g0Of T gd K) (.d (.list ps)) x := by
  obtain ⟨xs, r, k⟩ := valsB_ok b
  have hz := of_decide_eq_true hz
  refine ⟨_, .ref ad, a, rfl, rfl, fun ι F => ?_⟩
  have hl : xs.length ≤ sizeLine := by
    rw [r.length, Array.length_toList]
    exact Nat.le_trans hz (by decide)
  exact At.lst (.inr ⟨_, its, n, l, rfl, rfl, rfl, Nat.le_trans hz (by decide), r⟩) hl (k K F)
/-- a def's place: the module, a class -/
def FnX (T : Tab) (K : Frag) (i : Nat) (t : Df) : Prop :=
  (T.fns[i]? = some (some t.x) ∧ (∀ p, T.mths[i]? ≠ some (some p)) ∧ FnF K t) ∨ ((∀ x, T.fns[i]? ≠ some (some x)) ∧ ∃ c x, T.mths[i]? = some (some (c, t.x)) ∧ T.kls[c]? = some x ∧ MtF K x t)
theorem ent_of {prog : Program} {w : World} {K : Frag} {h : Heap} {mg : Str → Option Value} {T : Tab} {fs : List Fn} {ts : List Df} {gd : Gd} (KX : K.In h) (G : h.Ns mainGlobals mg)
    (hlen : T.fns.length ≤ fs.length ∧ T.mths.length ≤ fs.length ∧ ts.length = fs.length) (hdf : ∀ (i : Nat) (d : Fn) (t : Df), fs[i]? = some d → ts[i]? = some t → dfOk T d t = true) (hf : ∀ (i : Nat) (t : Df), ts[i]? = some t → FnX T K i t)
    (hb : ∀ (i : Nat) (t : Df) (d : Fn), ts[i]? = some t → fs[i]? = some d → ∀ (kV doc pm : Value) (an : Option Addr) (cdv ct : Value) (us : List Value), us.length = (t.N.take d.np).length →
      bindArgs (fnOf t.x t.q (defArgs t.st) (defBody t.st) (defScope t.st) .none kV doc pm an cdv ct) ⟨us, []⟩ = pure ((t.N.take d.np).zip us))
    (hc : ∀ (i : Nat) (x : Str), T.cls[i]? = some x → ClX prog K x (gd.hv i)) (hg : ∀ (i : Nat) (x : Str), T.glbs[i]? = some x → GlOk (g0Of T gd K) (gd.v i) x) (hg0 : ∀ i, T.glbs[i]? = none → gd.v i = .d .none)
    (hk : ∀ (c : Nat) (x : Str), T.kls[c]? = some x → KlX K x ((T.fds.filter fun p => p.1 == c).map (·.2))) (hfd : ∀ (c : Nat) (x : Str), (c, x) ∈ T.fds → ∃ y, T.kls[c]? = some y) (hkd : ∀ (i : Nat) (x : Str), T.kds[i]? = some x → ∃ l, KdX w K x l) (cold : T.hot = false)
    (hgd : GdOk (g0Of T gd K) gd) (hblt : ∀ b : Bi, nsIn K mainGlobals b.name = some none) (htys : ∀ t ∈ tyNames, nsIn K mainGlobals (Str.ofString t) = some none) (hr : nsIn K mainGlobals "range" = some none) (he : nsIn K mainGlobals "enumerate" = some none) (hz : nsIn K mainGlobals "zip" = some none) :
    Ent prog w (g0Of T gd K) mg T fs ts gd (gvsOf T K) where
  ok := hdf
  len := hlen
  fn := fun i t d ht hd => by
    have kls : ∀ c x, T.kls[c]? = some x → (g0Of T gd K).co c = clOf K x := fun c x hx => by
      show clOf K (T.kls.getD c "") = _
      rw [List.getD_eq_getElem?_getD, hx]
      rfl
    rcases hf i t ht with ⟨e1, e2, F⟩ | ⟨e1, c, x, e2, e3, F⟩
    · obtain ⟨f, oc, kV, doc, pm, cdv, ct, od, an, osl, a, l, cc, k⟩ := F.ex
      have F1 := fun_mk (st := t.st) l cc k
      exact ⟨f, _, F1, F1.binds (hb i t d ht hd), fun y hy => by rw [e1] at hy; cases hy; exact mg_of KX G a, fun c m hm => (e2 _ hm).elim⟩
    · obtain ⟨C0, f, oc, kV, doc, pm, cdv, ct, od, an, osl, aC0, a, l, cc, k, isf⟩ := F.ex
      have F1 := fun_mk (st := t.st) l cc k
      refine ⟨f, _, F1, F1.binds (hb i t d ht hd), fun y hy => (e1 _ hy).elim, fun c' m hm => ?_⟩
      rw [e2] at hm
      cases hm
      obtain ⟨C, aC, b⟩ := (hk c x e3).ex
      rw [kls c x e3]
      have e0 : C0 = C := by
        rw [aC] at aC0
        cases aC0
        rfl
      subst e0
      rw [clOf_eq aC]
      unfold klB at b
      simp only [Bool.and_eq_true, decide_eq_true_eq] at b
      obtain ⟨⟨⟨⟨⟨⟨b1, b2⟩, b3⟩, b4⟩, b5⟩, b6⟩, b7⟩ := b
      exact ⟨⟨b1, b2, b3, b4⟩, ⟨a, isf, k⟩, fun z => ⟨b5, by rw [← z]; exact a, isf, b6⟩⟩
  kds := fun i x hx => by
    obtain ⟨l, H⟩ := hkd i x hx
    obtain ⟨d, cl, od, es, n, sl, a, b, c, e⟩ := H.ex
    have e0 : (g0Of T gd K).kd i = d := by
      show clOf K (T.kds.getD i "") = d
      rw [List.getD_eq_getElem?_getD, hx]
      exact clOf_eq a
    rw [e0]
    exact ⟨mg_of KX G a, He.dicW_ok e⟩
  kls := fun c x hx => by
    obtain ⟨C, aC, b⟩ := (hk c x hx).ex
    have e0 : (g0Of T gd K).co c = C := by
      show clOf K (T.kls.getD c "") = C
      rw [List.getD_eq_getElem?_getD, hx]
      exact clOf_eq aC
    rw [e0]
    exact mg_of KX G aC
  fds := fun c x hx => by
    obtain ⟨y, hy⟩ := hfd c x hx
    obtain ⟨C, aC, b⟩ := (hk c y hy).ex
    have e0 : (g0Of T gd K).co c = C := by
      show clOf K (T.kls.getD c "") = C
      rw [List.getD_eq_getElem?_getD, hy]
      exact clOf_eq aC
    rw [e0]
    unfold klB at b
    simp only [Bool.and_eq_true, decide_eq_true_eq, List.all_eq_true] at b
    obtain ⟨⟨⟨⟨⟨⟨b1, b2⟩, b3⟩, b4⟩, b5⟩, b6⟩, b7⟩ := b
    exact ⟨⟨b1, b2, b3, b4⟩, b7 x (List.mem_map.mpr ⟨(c, x), List.mem_filter.mpr ⟨hx, by simp⟩, rfl⟩)⟩
  cold := cold
  glb := fun i x hi => by
    obtain ⟨u, v, a, b, r, _⟩ := hg i x hi
    refine ⟨u, mg_of KX G a, ?_⟩
    have e : gvsOf T K i = v := by
      unfold gvsOf
      rw [hi]
      show gvOf K x = v
      unfold gvOf
      have a' : nsIn K mainGlobals x = some (some u) := a
      rw [a']
      show (absV u).getD .non = v
      rw [b]
      rfl
    rw [e]
    exact r
  gl := fun i ι F => by
    cases hi : T.glbs[i]? with
    | none =>
      rw [hg0 i hi]
      unfold gvsOf
      rw [hi]
      exact At.non
    | some x =>
      obtain ⟨u, v, a, b, r, q⟩ := hg i x hi
      have e : gvsOf T K i = v := by
        unfold gvsOf
        rw [hi]
        show gvOf K x = v
        unfold gvOf
        have a' : nsIn K mainGlobals x = some (some u) := a
        rw [a']
        show (absV u).getD .non = v
        rw [b]
        rfl
      rw [e]
      exact q ι F
  gd := hgd
  cls := fun i x hi => by
    obtain ⟨C, a, c⟩ := (hc i x hi).ex
    have e : (g0Of T gd K).cl i = C := by
      show clOf K (T.cls.getD i "") = C
      rw [List.getD_eq_getElem?_getD, hi]
      exact clOf_eq a
    rw [e]
    exact ⟨mg_of KX G a, c⟩
  blt := fun b => mg_none_of KX G (hblt b)
  tys := fun t ht => mg_none_of KX G (htys t ht)
  rng := mg_none_of KX G hr
  enu := mg_none_of KX G he
  zp := mg_none_of KX G hz
end MP
namespace Law
open PySem MP
def i (x : Int) : ME := .cst (.int x)
def s (x : Str) : ME := .cst (.str x)
def v (n : Nat) : ME := .var n
def es : List ME → MEs | [] => .nil | a :: r => .cons a (es r)
def ss : List MS → MSs | [] => .nil | a :: r => .cons a (ss r)
/-- _law_cell -/
def b0 : MSs := ss [(.ife (.op .lt false (v 1) (.bi .len false (es [(v 0)]))) (ss [(.ret (.ix (v 0) (v 1)))]) (ss [])), (.ret (.op .mod false (.bi .sum false (es [(.sl (v 0) .none (.some (i 1)))])) (i 1000003)))]
def f0 : Fn := ⟨2, 2, b0, false⟩
/-- _law_generator -/
def b1 : MSs := ss [(.asg (.nm 2) (.call 0 (es [(v 0), (v 1)]))), (.ret (.lst true (es [(.op .mod false (.bi .int false (es [(.bi .max2 false (es [(.op .sub false (v 2) (.op .pow false (i 10) (i 18))), (i 0)]))])) (.op .pow false (.op .pow false (i 10) (i 60)) (i 10))), (.op .mod false (.bi .int false (es [(v 2)])) (i 2147483647)), (.op .mul false (i 1000) (v 1))])))]
def f1 : Fn := ⟨2, 3, b1, true⟩
/-- _law_hash -/
def b2 : MSs := ss [(.asg (.nm 2) (.op .mod false (.bi .int false (es [(.op .add false (.op .add false (.op .add false (.op .mul false (v 0) (i 1140671)) (.op .mul false (.op .mul false (i 27644437) (v 1)) (v 1))) (.op .mul false (i 131) (v 1))) (i 19))])) (i 2147483629))), (.asg (.nm 2) (.op .mod false (.bi .int false (es [(.op .add false (.op .add false (.op .mul false (v 2) (v 2)) (.op .mul false (i 62089) (v 1))) (i 32416187))])) (i 2147483587))), (.ret (.op .mod false (.bi .int false (es [(.op .mul false (v 2) (i 48271))])) (i 2147483647)))]
def f2 : Fn := ⟨2, 3, b2, false⟩
/-- _law_random -/
def b3 : MSs := ss [(.ife (.op .gt false (.ix (v 0) (i 0)) (i 0)) (ss [(.asg (.nm 2) (.op .mod false (.bi .int false (es [(.ix (v 0) (i 0))])) (v 1))), (.asg (.sub (v 0) (i 0)) (.op .fdiv false (.ix (v 0) (i 0)) (v 1))), (.ret (v 2))]) (ss [])), (.asg (.nm 2) (i 0)), (.fors (.nm 3) .range1 (es [(.op .add false (i 1) (.op .fdiv false (.bits (v 1)) (i 30)))]) (ss [(.asg (.sub (v 0) (i 2)) (.op .add false (.ix (v 0) (i 2)) (i 1))), (.asg (.nm 2) (.op .add false (.op .mul false (v 2) (i 2147483587)) (.call 2 (es [(.ix (v 0) (i 1)), (.ix (v 0) (i 2))]))))])), (.ret (.op .mod false (.bi .int false (es [(v 2)])) (v 1)))]
def f3 : Fn := ⟨2, 4, b3, false⟩
/-- is_word -/
def b4 : MSs := ss [(.ife (.or (.not (.bi .isi false (es [(v 0), (.ty "str")]))) (.or (.not (.chain .le .le (i 1) (.bi .len false (es [(v 0)])) (.glb 2))) (.op .inn false (v 0) (.glb 3)))) (ss [(.ret (.cst (.bl false)))]) (ss [])), (.ret (.and (.op .inn false (.ix (v 0) (i 0)) (.glb 0)) (.op .eq false (.comp false (v 1) (.nm 1) .list (es [(v 0)]) (.some (.op .nin false (v 1) (.glb 1))) [("letter", 1)]) (.lst false (es [])))))]
def f4 : Fn := ⟨1, 2, b4, false⟩
/-- are_words -/
def b5 : MSs := ss [(.ife (.or (.not (.bi .isi false (es [(v 0), (.ty "list")]))) (.or (.op .gt false (.bi .len false (es [(v 0)])) (v 1)) (.op .ne false (.comp false (v 2) (.nm 2) .list (es [(v 0)]) (.some (.not (.call 4 (es [(v 2)])))) [("item", 2)]) (.lst false (es []))))) (ss [(.ret (.cst (.bl false)))]) (ss [])), (.ret (.op .eq false (.un .lset false (v 0)) (.bi .len false (es [(v 0)]))))]
def f5 : Fn := ⟨2, 3, b5, false⟩
/-- twice_led -/
def b6 : MSs := ss [(.asg (.nm 1) (.dnew true)), (.fors (.nm 2) .list (es [(v 0)]) (ss [(.ife (.op .eq false (.ix (v 2) (i 0)) (s "link")) (ss [(.par [3, 4] (es [(.tup (es [(.ix (v 2) (i 1)), (i 0), (.ix (v 2) (i 2))])), (.tup (es [(.ix (v 2) (i 1)), (i 1), (.ix (v 2) (i 3))]))])), (.ife (.or (.op .inn false (v 3) (v 1)) (.op .inn false (v 4) (v 1))) (ss [(.ret (v 2))]) (ss [])), (.asgT [(.sub (v 1) (v 3)), (.sub (v 1) (v 4))] (.tup (es [(.cst (.bl true)), (.cst (.bl true))])))]) (ss []))])), (.ret (.cst .non))]
def f6 : Fn := ⟨1, 5, b6, false⟩
/-- is_whole -/
def b7 : MSs := ss [(.ret (.and (.bi .isi false (es [(v 0), (.ty "int")])) (.not (.bi .isi false (es [(v 0), (.ty "bool")])))))]
def f7 : Fn := ⟨1, 1, b7, false⟩
/-- is_between -/
def b8 : MSs := ss [(.ret (.and (.call 7 (es [(v 0)])) (.and (.op .ge false (v 0) (v 1)) (.or (.op .is_ false (v 2) (.cst .non)) (.op .le false (v 0) (v 2))))))]
def f8 : Fn := ⟨3, 3, b8, false⟩
/-- is_item -/
def b9 : MSs := ss [(.ret (.call 8 (es [(v 0), (i 0), (.glb 7)])))]
def f9 : Fn := ⟨1, 1, b9, false⟩
/-- is_fact_of -/
def b10 : MSs := ss [(.ife (.or (.not (.bi .isi false (es [(v 3), (.ty "tuple")]))) (.or (.op .nin false (.bi .len false (es [(v 3)])) (.lst false (es [(i 3), (i 4)]))) (.not (.bi .isi false (es [(.ix (v 3) (i 1)), (.ty "str")]))))) (ss [(.ret (.cst (.bl false)))]) (ss [])), (.ife (.op .eq false (.bi .len false (es [(v 3)])) (i 3)) (ss [(.ret (.and (.op .eq false (.ix (v 3) (i 0)) (s "mark")) (.and (.op .inn false (.ix (v 3) (i 1)) (v 0)) (.and (.call 9 (es [(.ix (v 3) (i 2))])) (.op .inn false (.ix (v 3) (i 2)) (v 2))))))]) (ss [])), (.ife (.or (.not (.bi .isi false (es [(.ix (v 3) (i 0)), (.ty "str")]))) (.or (.op .ne false (.ix (v 3) (i 0)) (s "link")) (.op .nin false (.ix (v 3) (i 1)) (v 1)))) (ss [(.ret (.cst (.bl false)))]) (ss [])), (.ret (.and (.call 9 (es [(.ix (v 3) (i 2))])) (.and (.call 9 (es [(.ix (v 3) (i 3))])) (.and (.op .inn false (.ix (v 3) (i 2)) (v 2)) (.op .inn false (.ix (v 3) (i 3)) (v 2))))))]
def f10 : Fn := ⟨4, 4, b10, false⟩
/-- is_store_by -/
def b11 : MSs := ss [(.ife (.or (.not (.bi .isi false (es [(v 0), (.ty "tuple")]))) (.or (.op .ne false (.bi .len false (es [(v 0)])) (i 5)) (.or (.not (.bi .isi false (es [(.ix (v 0) (i 0)), (.ty "str")]))) (.op .ne false (.ix (v 0) (i 0)) (s "store"))))) (ss [(.ret (.cst (.bl false)))]) (ss [])), (.asgT [(.nm 1), (.nm 2), (.nm 3), (.nm 4), (.nm 5)] (v 0)), (.ife (.or (.not (.call 5 (es [(v 2), (.glb 4)]))) (.not (.call 5 (es [(v 3), (.glb 5)])))) (ss [(.ret (.cst (.bl false)))]) (ss [])), (.ife (.not (.call 5 (es [(.op .add false (v 2) (v 3)), (.op .add false (.glb 4) (.glb 5))]))) (ss [(.ret (.cst (.bl false)))]) (ss [])), (.ife (.or (.not (.bi .isi false (es [(v 4), (.ty "list")]))) (.or (.op .gt false (.bi .len false (es [(v 4)])) (.glb 6)) (.op .ne false (.comp false (v 7) (.nm 7) .list (es [(v 4)]) (.some (.not (.call 9 (es [(v 7)])))) [("item", 7)]) (.lst false (es []))))) (ss [(.ret (.cst (.bl false)))]) (ss [])), (.asg (.nm 6) (.dcomp (v 7) (.cst (.bl true)) (.nm 7) .list (es [(v 4)]) .none [("item", 7)])), (.ife (.or (.op .ne false (v 4) (.un .sset false (v 4))) (.not (.bi .isi false (es [(v 5), (.ty "list")])))) (ss [(.ret (.cst (.bl false)))]) (ss [])), (.ife (.op .ne false (.comp false (v 8) (.nm 8) .list (es [(v 5)]) (.some (.not (.call 10 (es [(v 2), (v 3), (v 6), (v 8)])))) [("fact", 8)]) (.lst false (es []))) (ss [(.ret (.cst (.bl false)))]) (ss [])), (.ret (.and (.op .eq false (v 5) (.un .sset false (v 5))) (.op .is_ false (.call 6 (es [(v 5)])) (.cst .non))))]
def f11 : Fn := ⟨1, 9, b11, false⟩
/-- are_pieces -/
def b12 : MSs := ss [(.ife (.or (.not (.bi .isi false (es [(v 0), (.ty "list")]))) (.not (.chain .le .le (i 1) (.bi .len false (es [(v 0)])) (.glb 8)))) (ss [(.ret (.cst (.bl false)))]) (ss [])), (.ife (.op .ne false (.comp false (v 1) (.nm 1) .list (es [(v 0)]) (.some (.or (.not (.call 11 (es [(v 1)]))) (.op .gt false (.bi .len false (es [(.ix (v 1) (i 3))])) (.glb 9)))) [("piece", 1)]) (.lst false (es []))) (ss [(.ret (.cst (.bl false)))]) (ss [])), (.ret (.op .eq false (.comp false (v 1) (.nm 1) .list (es [(v 0)]) (.some (.op .ne false (.sl (v 1) (.some (i 1)) (.some (i 3))) (.sl (.ix (v 0) (i 0)) (.some (i 1)) (.some (i 3))))) [("piece", 1)]) (.lst false (es []))))]
def f12 : Fn := ⟨1, 2, b12, false⟩
/-- check_pieces -/
def b13 : MSs := ss [(.ife (.not (.call 12 (es [(v 0)]))) (ss [(.rse 3 (v 0))]) (ss []))]
def f13 : Fn := ⟨1, 1, b13, false⟩
/-- parts_by -/
def b14 : MSs := ss [(.ife (.op .inn false (.ix (v 0) (i 0)) (.lst false (es [(s "some"), (s "all")]))) (ss [(.ret (.lst false (es [(.ix (v 0) (i 2))])))]) (ss [])), (.ret (.ife (.op .inn false (.ix (v 0) (i 0)) (.lst false (es [(s "not"), (s "and"), (s "or")]))) (.bi .list false (es [(.sl (v 0) (.some (i 1)) .none)])) (.lst false (es []))))]
def f14 : Fn := ⟨1, 1, b14, false⟩
/-- walk_by -/
def b15 : MSs := ss [(.par [1, 2] (es [(.lst true (es [])), (.lst true (es [(.tup (es [(.tup (es [])), (v 0), (.lst false (es []))]))]))])), (.whl (.op .ne false (v 2) (.lst false (es []))) (ss [(.asgT [(.nm 3), (.nm 4), (.nm 5)] (.mt .pop0 (v 2) .nil)), (.expr (.mt .append (v 1) (es [(.tup (es [(v 3), (v 4), (v 5)]))]))), (.asg (.nm 6) (.ife (.op .inn false (.ix (v 4) (i 0)) (.lst false (es [(s "some"), (s "all")]))) (.lst false (.star (v 5) (.cons (.ix (v 4) (i 1)) .nil))) (v 5))), (.asg (.nm 7) (.comp false (.tup (es [(.tup (.star (v 3) (.cons (v 8) .nil))), (v 9), (v 6)])) (.tp [8, 9]) .enum (es [(.call 14 (es [(v 4)]))]) .none [("at", 8), ("part", 9)])), (.expr (.mt .extend (v 2) (es [(.un .rev false (v 7))])))])), (.ret (v 1))]
def f15 : Fn := ⟨1, 10, b15, false⟩
/-- signs_by -/
def b16 : MSs := ss [(.par [1, 2] (es [(.dnew false), (.dnew false)])), (.fors (.tp [3, 4, 5]) .list (es [(.call 15 (es [(v 0)]))]) (ss [(.ife (.op .eq false (.ix (v 4) (i 0)) (s "mark")) (ss [(.asg (.sub (v 1) (.ix (v 4) (i 1))) (.cst (.bl true)))]) (ss [])), (.ife (.op .eq false (.ix (v 4) (i 0)) (s "link")) (ss [(.asg (.sub (v 2) (.ix (v 4) (i 1))) (.cst (.bl true)))]) (ss []))])), (.ret (.tup (es [(.bi .sorted false (es [(v 1)])), (.bi .sorted false (es [(v 2)]))])))]
def f16 : Fn := ⟨1, 6, b16, false⟩
/-- used_by -/
def b17 : MSs := ss [(.ife (.op .inn false (.ix (v 0) (i 0)) (.lst false (es [(s "mark"), (s "link")]))) (ss [(.ret (.bi .list false (es [(.sl (v 0) (.some (i 2)) .none)])))]) (ss [])), (.ret (.ife (.op .eq false (.ix (v 0) (i 0)) (s "same")) (.bi .list false (es [(.sl (v 0) (.some (i 1)) .none)])) (.lst false (es []))))]
def f17 : Fn := ⟨1, 1, b17, false⟩
/-- free_by -/
def b18 : MSs := ss [(.asg (.nm 1) (.dnew false)), (.fors (.tp [2, 3, 4]) .list (es [(.call 15 (es [(v 0)]))]) (ss [(.fors (.nm 5) .list (es [(.call 17 (es [(v 3)]))]) (ss [(.ife (.op .nin false (v 5) (v 4)) (ss [(.asg (.sub (v 1) (v 5)) (.cst (.bl true)))]) (ss []))]))])), (.ret (.bi .sorted false (es [(v 1)])))]
def f18 : Fn := ⟨1, 6, b18, false⟩
/-- words_by -/
def b19 : MSs := ss [(.ife (.op .inn false (.ix (v 0) (i 0)) (.lst false (es [(s "mark"), (s "link"), (s "same")]))) (ss [(.ret (.bi .list false (es [(.sl (v 0) (.some (i 1)) .none)])))]) (ss [])), (.ret (.ife (.op .inn false (.ix (v 0) (i 0)) (.lst false (es [(s "some"), (s "all")]))) (.lst false (es [(.ix (v 0) (i 1))])) (.lst false (es []))))]
def f19 : Fn := ⟨1, 1, b19, false⟩
/-- wrong_here -/
def b20 : MSs := ss [(.ife (.or (.not (.bi .isi false (es [(v 0), (.ty "tuple")]))) (.or (.op .eq false (v 0) (.tup (es []))) (.not (.bi .isi false (es [(.ix (v 0) (i 0)), (.ty "str")]))))) (ss [(.ret (s "form"))]) (ss [])), (.ife (.or (.gin true (.ix (v 0) (i 0)) 0) (.op .ne false (.bi .len false (es [(v 0)])) (.op .add false (.gix 0 (.ix (v 0) (i 0))) (i 1)))) (ss [(.ret (s "form"))]) (ss [])), (.ife (.op .ne false (.comp false (v 2) (.nm 2) .list (es [(.call 19 (es [(v 0)]))]) (.some (.not (.call 4 (es [(v 2)])))) [("word", 2)]) (.lst false (es []))) (ss [(.ret (s "word"))]) (ss [])), (.ret (.ife (.and (.op .inn false (.ix (v 0) (i 0)) (.lst false (es [(s "some"), (s "all")]))) (.op .inn false (.ix (v 0) (i 1)) (v 1))) (s "bound") (.cst .non)))]
def f20 : Fn := ⟨2, 3, b20, false⟩
/-- first_wrong_by -/
def b21 : MSs := ss [(.asg (.nm 1) (.lst true (es [(.tup (es [(.tup (es [])), (v 0), (.lst false (es []))]))]))), (.whl (.op .ne false (v 1) (.lst false (es []))) (ss [(.asgT [(.nm 3), (.nm 4), (.nm 5)] (.mt .pop0 (v 1) .nil)), (.asg (.nm 6) (.call 20 (es [(v 4), (v 5)]))), (.ife (.op .isn false (v 6) (.cst .non)) (ss [(.ret (.tup (es [(v 3), (v 6)])))]) (ss [])), (.asg (.nm 7) (.ife (.op .inn false (.ix (v 4) (i 0)) (.lst false (es [(s "some"), (s "all")]))) (.lst false (.star (v 5) (.cons (.ix (v 4) (i 1)) .nil))) (v 5))), (.asg (.nm 8) (.comp false (.tup (es [(.tup (.star (v 3) (.cons (v 9) .nil))), (v 10), (v 7)])) (.tp [9, 10]) .enum (es [(.call 14 (es [(v 4)]))]) .none [("at", 9), ("part", 10)])), (.expr (.mt .extend (v 1) (es [(.un .rev false (v 8))])))])), (.asg (.nm 2) (.call 18 (es [(v 0)]))), (.fors (.tp [3, 4, 5]) .list (es [(.call 15 (es [(v 0)]))]) (ss [(.ife (.and (.op .inn false (.ix (v 4) (i 0)) (.lst false (es [(s "some"), (s "all")]))) (.op .inn false (.ix (v 4) (i 1)) (v 2))) (ss [(.ret (.tup (es [(v 3), (s "free")])))]) (ss []))])), (.ret (.cst .non))]
def f21 : Fn := ⟨1, 11, b21, false⟩
/-- is_any_question -/
def b22 : MSs := ss [(.ret (.op .is_ false (.call 21 (es [(v 0)])) (.cst .non)))]
def f22 : Fn := ⟨1, 1, b22, false⟩
/-- is_question_by -/
def b23 : MSs := ss [(.ife (.not (.call 22 (es [(v 2)]))) (ss [(.ret (.cst (.bl false)))]) (ss [])), (.asg (.nm 3) (.call 16 (es [(v 2)]))), (.ret (.op .eq false (.op .add false (.comp false (v 4) (.nm 4) .list (es [(.ix (v 3) (i 0))]) (.some (.op .nin false (v 4) (v 0))) [("word", 4)]) (.comp false (v 4) (.nm 4) .list (es [(.ix (v 3) (i 1))]) (.some (.op .nin false (v 4) (v 1))) [("word", 4)])) (.lst false (es []))))]
def f23 : Fn := ⟨3, 5, b23, false⟩
/-- check_closed_of -/
def b24 : MSs := ss [(.ife (.or (.not (.call 23 (es [(.ix (.ix (v 0) (i 0)) (i 1)), (.ix (.ix (v 0) (i 0)) (i 2)), (v 1)]))) (.op .ne false (.call 18 (es [(v 1)])) (.lst false (es [])))) (ss [(.rse 1 (v 1))]) (ss []))]
def f24 : Fn := ⟨2, 2, b24, false⟩
/-- check_few_cuts -/
def b25 : MSs := ss [(.asg (.nm 2) (i 1)), (.fors (.nm 3) .list (es [(v 1)]) (ss [(.asg (.nm 2) (.op .mul false (v 2) (.op .add false (v 0) (i 1))))])), (.ife (.op .gt false (v 2) (.glb 10)) (ss [(.rse 4 (v 2))]) (ss []))]
def f25 : Fn := ⟨2, 4, b25, false⟩
/-- rows_to -/
def b26 : MSs := ss [(.asg (.nm 2) (.lst false (es [(.tup (es []))]))), (.fors (.nm 3) .range1 (es [(v 1)]) (ss [(.asg (.nm 4) (.lst false (es []))), (.fors (.nm 5) .list (es [(v 2)]) (ss [(.asg (.nm 4) (.op .add false (v 4) (.comp false (.op .add false (v 5) (.tup (es [(v 6)]))) (.nm 6) .range1 (es [(.op .add false (v 0) (i 1))]) .none [("number", 6)])))])), (.asg (.nm 2) (v 4))])), (.ret (v 2))]
def f26 : Fn := ⟨2, 7, b26, false⟩
/-- depth_by -/
def b27 : MSs := ss [(.ret (.bi .max2 false (es [(.comp false (.op .add false (.bi .len false (es [(v 3)])) (.bi .int false (es [(.op .inn false (.ix (v 2) (i 0)) (.lst false (es [(s "some"), (s "all")])))]))) (.tp [1, 2, 3]) .list (es [(.call 15 (es [(v 0)]))]) .none [("place", 1), ("here", 2), ("around", 3)])])))]
def f27 : Fn := ⟨1, 4, b27, false⟩
/-- marks_by -/
def b28 : MSs := ss [(.asg (.nm 1) (.dcomp (v 3) (.op .mul false (.lst false (es [(i 0)])) (.bi .len false (es [(.ix (v 0) (i 1))]))) (.nm 3) .list (es [(.ix (v 0) (i 3))]) .none [("item", 3)])), (.fors (.nm 2) .list (es [(.ix (v 0) (i 4))]) (ss [(.ife (.op .eq false (.ix (v 2) (i 0)) (s "mark")) (ss [(.asg (.sub (.ix (v 1) (.ix (v 2) (i 2))) (.mt .index (.ix (v 0) (i 1)) (es [(.ix (v 2) (i 1))]))) (i 1))]) (ss []))])), (.ret (.dcomp (v 3) (.bi .tuple false (es [(v 4)])) (.tp [3, 4]) .items (es [(v 1)]) .none [("item", 3), ("told", 4)]))]
def f28 : Fn := ⟨1, 5, b28, false⟩
/-- links_by -/
def b29 : MSs := ss [(.par [1, 2] (es [(.dnew true), (.dnew true)])), (.fors (.nm 3) .list (es [(.ix (v 0) (i 4))]) (ss [(.ife (.op .eq false (.ix (v 3) (i 0)) (s "link")) (ss [(.asg (.sub (v 1) (.tup (es [(.ix (v 3) (i 1)), (.ix (v 3) (i 2))]))) (.ix (v 3) (i 3))), (.asg (.sub (v 2) (.tup (es [(.ix (v 3) (i 1)), (.ix (v 3) (i 3))]))) (.ix (v 3) (i 2)))]) (ss []))])), (.ret (.tup (es [(v 1), (v 2)])))]
def f29 : Fn := ⟨1, 4, b29, false⟩
/-- holds_union -/
def b30 : MSs := ss [(.asg (.nm 3) (.call 27 (es [(v 0)]))), (.ret (.meth 0 45 "holds" (.new 0 42 (es [(v 1), (.comp false (.bi .min1 false (es [(v 4), (v 3)])) (.nm 4) .list (es [(v 2)]) .none [("count", 4)])])) (es [(v 0), (.dnew false)])))]
def f30 : Fn := ⟨3, 5, b30, false⟩
/-- cuts_by -/
def b31 : MSs := ss [(.ret (.comp false (v 2) (.nm 2) .list (es [(.call 26 (es [(.call 27 (es [(v 0)])), (.bi .len false (es [(v 1)]))]))]) (.some (.call 30 (es [(v 0), (v 1), (.bi .list false (es [(v 2)]))]))) [("row", 2)]))]
def f31 : Fn := ⟨2, 3, b31, false⟩
/-- cuts -/
def b32 : MSs := ss [(.expr (.call 13 (es [(v 1)]))), (.expr (.call 24 (es [(v 1), (v 0)]))), (.expr (.call 25 (es [(.call 27 (es [(v 0)])), (v 1)]))), (.ret (.call 31 (es [(v 0), (v 1)])))]
def f32 : Fn := ⟨2, 2, b32, false⟩
/-- enough -/
def b33 : MSs := ss [(.expr (.call 13 (es [(v 1)]))), (.expr (.call 24 (es [(v 1), (v 0)]))), (.ife (.not (.call 8 (es [(v 2), (i 0), (.op .sub false (.bi .len false (es [(v 1)])) (i 1))]))) (ss [(.rse 2 (v 2))]) (ss [])), (.asg (.nm 3) (.call 27 (es [(v 0)]))), (.expr (.call 25 (es [(v 3), (v 1)]))), (.par [4, 5] (es [(.call 31 (es [(v 0), (v 1)])), (i 0)])), (.fors (.nm 6) .list (es [(.call 26 (es [(v 3), (.bi .len false (es [(v 1)]))]))]) (ss [(.asg (.nm 7) (.op .add false (.op .add false (.sl (v 6) .none (.some (v 2))) (.tup (es [(.op .add false (.ix (v 6) (v 2)) (i 1))]))) (.sl (v 6) (.some (.op .add false (v 2) (i 1))) .none))), (.ife (.and (.op .lt false (.ix (v 6) (v 2)) (v 3)) (.op .ne false (.op .inn false (v 6) (v 4)) (.op .inn false (v 7) (v 4)))) (ss [(.asg (.nm 5) (.bi .max2 false (es [(v 5), (.op .add false (.ix (v 6) (v 2)) (i 1))])))]) (ss []))])), (.ret (v 5))]
def f33 : Fn := ⟨3, 8, b33, false⟩
/-- parting_counts -/
def b34 : MSs := ss [(.expr (.call 13 (es [(v 2)]))), (.expr (.call 24 (es [(v 2), (v 0)]))), (.expr (.call 24 (es [(v 2), (v 1)]))), (.asg (.nm 3) (.bi .max2 false (es [(.call 27 (es [(v 0)])), (.call 27 (es [(v 1)]))]))), (.expr (.call 25 (es [(v 3), (v 2)]))), (.asg (.nm 4) (.lst true (es []))), (.fors (.nm 5) .list (es [(.call 26 (es [(v 3), (.bi .len false (es [(v 2)]))]))]) (ss [(.ife (.op .ne false (.call 30 (es [(v 0), (v 2), (.bi .list false (es [(v 5)]))])) (.call 30 (es [(v 1), (v 2), (.bi .list false (es [(v 5)]))]))) (ss [(.expr (.mt .append (v 4) (es [(.tup (es [(.bi .sum false (es [(.comp false (.op .mul false (.bi .len false (es [(.ix (v 6) (i 3))])) (v 7)) (.tp [6, 7]) .zips (es [(v 2), (v 5)]) .none [("piece", 6), ("count", 7)])])), (v 5)]))])))]) (ss []))])), (.ret (.ife (.op .ne false (v 4) (.lst false (es []))) (.bi .list false (es [(.ix (.bi .min1 false (es [(v 4)])) (i 1))])) (.cst .non)))]
def f34 : Fn := ⟨3, 8, b34, false⟩
/-- _law_many -/
def b35 : MSs := ss [(.asg (.nm 3) (.cst .non)), (.tryAs (ss [(.ife (.op .eq false (v 0) (i 0)) (ss [(.expr (.call 32 (es [(v 1), (v 2)])))]) (ss [(.ife (.op .eq false (v 0) (i 1)) (ss [(.expr (.call 33 (es [(v 1), (v 2), (i 0)])))]) (ss [(.ife (.op .eq false (v 0) (i 2)) (ss [(.expr (.call 34 (es [(v 1), (.tup (es [(s "false")])), (v 2)])))]) (ss [(.expr (.call 34 (es [(.tup (es [(s "true")])), (v 1), (v 2)])))]))]))]))]) 4 (some 4) (ss [(.asg (.nm 3) (.val (v 4)))])), (.ret (v 3))]
def f35 : Fn := ⟨3, 5, b35, false⟩
/-- _law_deep -/
def b36 : MSs := ss [(.asg (.nm 1) (.tup (es [(s "true")]))), (.fors (.nm 2) .range1 (es [(v 0)]) (ss [(.asg (.nm 1) (.tup (es [(s "some"), (.op .add false (s "n") (.bi .str false (es [(v 2)]))), (v 1)])))])), (.ret (v 1))]
def f36 : Fn := ⟨1, 3, b36, false⟩
/-- _law_order_right -/
def b37 : MSs := ss [(.asg (.nm 1) (.lst true (es []))), (.fors (.nm 2) .range1 (es [(i 3)]) (ss [(.tryAs (ss [(.ife (.op .eq false (v 2) (i 0)) (ss [(.expr (.call 33 (es [(.call 36 (es [(i 9)])), (v 0), (i 3)])))]) (ss [(.expr (.call 34 (es [(.call 36 (es [(i 9)])), (.ix (.lst false (es [(.cst .non), (.tup (es [(s "same"), (s "u"), (s "u")]))])) (.op .sub false (v 2) (i 1))), (v 0)])))]))]) 0 (some 3) (ss [(.expr (.mt .append (v 1) (es [(.lst false (es [(.bi .isi false (es [(v 3), (.glb 13)])), (.bi .isi false (es [(v 3), (.glb 12)])), (.val (v 3))]))])))]))])), (.ret (.op .eq false (v 1) (.lst false (es [(.lst false (es [(.cst (.bl true)), (.cst (.bl false)), (i 3)])), (.lst false (es [(.cst (.bl false)), (.cst (.bl true)), (.cst .non)])), (.lst false (es [(.cst (.bl false)), (.cst (.bl true)), (.tup (es [(s "same"), (s "u"), (s "u")]))]))]))))]
def f37 : Fn := ⟨1, 4, b37, false⟩
/-- are_counts -/
def b38 : MSs := ss [(.ife (.or (.not (.bi .isi false (es [(v 1), (.ty "list")]))) (.op .ne false (.bi .len false (es [(v 1)])) (.bi .len false (es [(v 0)])))) (ss [(.ret (.cst (.bl false)))]) (ss [])), (.ret (.op .eq false (.comp false (v 2) (.nm 2) .list (es [(v 1)]) (.some (.not (.call 8 (es [(v 2), (i 0), (.glb 11)])))) [("count", 2)]) (.lst false (es []))))]
def f38 : Fn := ⟨2, 3, b38, false⟩
/-- check_counts -/
def b39 : MSs := ss [(.ife (.not (.call 38 (es [(v 0), (v 1)]))) (ss [(.rse 3 (v 1))]) (ss []))]
def f39 : Fn := ⟨2, 2, b39, false⟩
/-- holds_in_union -/
def b40 : MSs := ss [(.expr (.call 13 (es [(v 1)]))), (.expr (.call 24 (es [(v 1), (v 0)]))), (.expr (.call 39 (es [(v 1), (v 2)]))), (.ret (.call 30 (es [(v 0), (v 1), (v 2)])))]
def f40 : Fn := ⟨3, 3, b40, false⟩
/-- law -/
def b41 : MSs := ss [(.asg (.nm 1) (.call 1 (es [(v 0), (i 0)]))), (.asgT [(.nm 2), (.nm 3)] (.tup (es [(.tup (es [(s "store"), (.lst false (es [(s "a")])), (.lst false (es [(s "b")])), (.lst false (es [(i 7)])), (.lst false (es []))])), (.tup (es [(s "store"), (.lst false (es [(s "a")])), (.lst false (es [(s "b")])), (.lst false (es [])), (.lst false (es []))]))]))), (.asg (.nm 4) (.ix (.lst false (es [(.lst false (es [(v 2), (v 3)])), (.lst false (es [(v 3)])), (.lst false (es [(v 2), (v 3), (v 3)]))])) (.call 3 (es [(v 1), (i 3)])))), (.asg (.nm 5) (.op .add false (i 1) (.call 3 (es [(v 1), (i 30)])))), (.asg (.nm 6) (.ife (.op .eq false (.bi .len false (es [(v 4)])) (i 2)) (.op .pow false (.op .add false (v 5) (i 1)) (i 2)) (.ife (.op .eq false (.bi .len false (es [(v 4)])) (i 3)) (.op .pow false (.op .add false (v 5) (i 1)) (i 3)) (.op .add false (v 5) (i 1))))), (.asg (.nm 7) (.ife (.op .gt false (v 6) (i 50)) (v 6) (.cst .non))), (.ife (.or (.op .isn false (v 7) (.cst .non)) (.op .lt false (v 5) (i 4))) (ss [(.ife (.op .ne false (.comp false (.call 35 (es [(v 8), (.call 36 (es [(v 5)])), (v 4)])) (.nm 8) .range1 (es [(i 4)]) .none [("door", 8)]) (.op .mul false (.lst false (es [(v 7)])) (i 4))) (ss [(.ret (.cst (.bl false)))]) (ss []))]) (ss [])), (.ife (.or (.op .ne false (.comp false (.call 35 (es [(v 8), (.call 36 (es [(i 3)])), (.lst false (es [(v 3), (v 3), (v 3)]))])) (.nm 8) .range1 (es [(i 4)]) .none [("door", 8)]) (.op .mul false (.lst false (es [(i 64)])) (i 4))) (.op .isn false (.call 35 (es [(i 0), (.call 36 (es [(i 2)])), (.lst false (es [(v 2), (v 2), (v 3)]))])) (.cst .non))) (ss [(.ret (.cst (.bl false)))]) (ss [])), (.ife (.or (.not (.call 37 (es [(.lst false (es [(v 2), (v 3)]))]))) (.not (.call 37 (es [(.lst false (es [(v 3), (v 2), (v 3)]))])))) (ss [(.ret (.cst (.bl false)))]) (ss [])), (.ret (.and (.op .is_ false (.call 40 (es [(.call 36 (es [(i 3)])), (.lst false (es [(v 3), (v 3), (v 3)])), (.op .mul false (.lst false (es [(.op .pow false (i 10) (i 29))])) (i 3))])) (.cst (.bl false))) (.op .is_ false (.call 40 (es [(.call 36 (es [(i 2)])), (.lst false (es [(v 2), (v 2), (v 2)])), (.lst false (es [(i 0), (i 0), (i 1)]))])) (.cst (.bl true)))))]
def f41 : Fn := ⟨1, 9, b41, false⟩
/-- Lot.__init__ -/
def b42 : MSs := ss [(.asgT [(.fld 0 "pieces" (v 0)), (.fld 0 "counts" (v 0))] (.tup (es [(v 1), (v 2)]))), (.asg (.fld 0 "links" (v 0)) (.comp false (.ix (.call 29 (es [(v 3)])) (i 0)) (.nm 3) .list (es [(v 1)]) .none [("piece", 3)])), (.asg (.fld 0 "marks" (v 0)) (.comp false (.call 28 (es [(v 3)])) (.nm 3) .list (es [(v 1)]) .none [("piece", 3)]))]
def f42 : Fn := ⟨3, 4, b42, true⟩
/-- Lot.spots -/
def b43 : MSs := ss [(.asg (.nm 2) (.lst false (es []))), (.fors (.tp [3, 4]) .enum (es [(.fld 0 "pieces" (v 0))]) (ss [(.asg (.nm 5) (.comp false (.ix (v 7) (i 1)) (.nm 7) .vals (es [(v 1)]) (.some (.op .eq false (.ix (v 7) (i 0)) (v 3))) [("spot", 7)])), (.fors (.nm 6) .range1 (es [(.bi .min1 false (es [(.ix (.fld 0 "counts" (v 0)) (v 3)), (.op .add false (.bi .max2 false (es [(.op .add false (.lst false (es [(.neg (i 1))])) (v 5))])) (i 2))]))]) (ss [(.asg (.nm 2) (.op .add false (v 2) (.comp false (.tup (es [(v 3), (v 6), (v 8)])) (.nm 8) .list (es [(.ix (v 4) (i 3))]) .none [("item", 8)])))]))])), (.ret (v 2))]
def f43 : Fn := ⟨2, 9, b43, false⟩
/-- Lot.is_fact -/
def b44 : MSs := ss [(.ife (.op .eq false (.ix (v 1) (i 0)) (s "mark")) (ss [(.asgT [(.nm 5), (.nm 6), (.nm 7)] (.ix (v 2) (.ix (v 1) (i 2)))), (.ret (.op .eq false (.ix (.ix (.ix (.fld 0 "marks" (v 0)) (v 5)) (v 7)) (.mt .index (.ix (.ix (.fld 0 "pieces" (v 0)) (i 0)) (i 1)) (es [(.ix (v 1) (i 1))]))) (i 1)))]) (ss [])), (.ife (.op .eq false (.ix (v 1) (i 0)) (s "same")) (ss [(.ret (.op .eq false (.ix (v 2) (.ix (v 1) (i 1))) (.ix (v 2) (.ix (v 1) (i 2)))))]) (ss [])), (.par [3, 4] (es [(.ix (v 2) (.ix (v 1) (i 2))), (.ix (v 2) (.ix (v 1) (i 3)))])), (.ret (.and (.op .eq false (.sl (v 3) .none (.some (i 2))) (.sl (v 4) .none (.some (i 2)))) (.op .eq false (.mt .get1 (.ix (.fld 0 "links" (v 0)) (.ix (v 3) (i 0))) (es [(.tup (es [(.ix (v 1) (i 1)), (.ix (v 3) (i 2))]))])) (.ix (v 4) (i 2)))))]
def f44 : Fn := ⟨3, 8, b44, false⟩
/-- Lot.holds -/
def b45 : MSs := ss [(.asg (.nm 3) (.ix (v 1) (i 0))), (.ife (.op .inn false (v 3) (.lst false (es [(s "true"), (s "false")]))) (ss [(.ret (.op .eq false (v 3) (s "true")))]) (ss [])), (.ife (.op .inn false (v 3) (.lst false (es [(s "mark"), (s "same"), (s "link")]))) (ss [(.ret (.meth 0 44 "is_fact" (v 0) (es [(v 1), (v 2)])))]) (ss [])), (.ife (.op .eq false (v 3) (s "not")) (ss [(.ret (.not (.meth 0 45 "holds" (v 0) (es [(.ix (v 1) (i 1)), (v 2)]))))]) (ss [])), (.ife (.op .inn false (v 3) (.lst false (es [(s "and"), (s "or")]))) (ss [(.asg (.nm 6) (.meth 0 45 "holds" (v 0) (es [(.ix (v 1) (i 1)), (v 2)]))), (.ret (.ife (.op .eq false (v 6) (.op .eq false (v 3) (s "or"))) (v 6) (.meth 0 45 "holds" (v 0) (es [(.ix (v 1) (i 2)), (v 2)]))))]) (ss [])), (.asg (.nm 4) (.bi .dict true (es [(v 2)]))), (.fors (.nm 5) .list (es [(.meth 0 43 "spots" (v 0) (es [(v 2)]))]) (ss [(.asg (.sub (v 4) (.ix (v 1) (i 1))) (v 5)), (.ife (.op .eq false (.meth 0 45 "holds" (v 0) (es [(.ix (v 1) (i 2)), (v 4)])) (.op .eq false (v 3) (s "some"))) (ss [(.ret (.op .eq false (v 3) (s "some")))]) (ss []))])), (.ret (.op .eq false (v 3) (s "all")))]
def f45 : Fn := ⟨3, 7, b45, false⟩
def T : Tab := ⟨[some ("_law_cell" : Str), some ("_law_generator" : Str), some ("_law_hash" : Str), some ("_law_random" : Str), some ("is_word" : Str), some ("are_words" : Str), some ("twice_led" : Str), some ("is_whole" : Str), some ("is_between" : Str), some ("is_item" : Str), some ("is_fact_of" : Str), some ("is_store_by" : Str), some ("are_pieces" : Str), some ("check_pieces" : Str), some ("parts_by" : Str), some ("walk_by" : Str), some ("signs_by" : Str), some ("used_by" : Str), some ("free_by" : Str), some ("words_by" : Str), some ("wrong_here" : Str), some ("first_wrong_by" : Str), some ("is_any_question" : Str), some ("is_question_by" : Str), some ("check_closed_of" : Str), some ("check_few_cuts" : Str), some ("rows_to" : Str), some ("depth_by" : Str), some ("marks_by" : Str), some ("links_by" : Str), some ("holds_union" : Str), some ("cuts_by" : Str), some ("cuts" : Str), some ("enough" : Str), some ("parting_counts" : Str), some ("_law_many" : Str), some ("_law_deep" : Str), some ("_law_order_right" : Str), some ("are_counts" : Str), some ("check_counts" : Str), some ("holds_in_union" : Str), some ("law" : Str), none, none, none, none], ["FIRST_LETTERS", "LETTERS", "LONGEST_WORD", "RESERVED", "MOST_MARKS", "MOST_COLUMNS", "MOST_ITEMS", "GREATEST_ITEM", "MOST_PIECES", "MOST_IN_PIECE", "MOST_CUTS", "GREATEST_COUNT", "InvalidQuestion", "InvalidNumber"], ["StoreError", "InvalidQuestion", "InvalidNumber", "InvalidList", "TooMany"], ["PARTS"], ["Lot"], [none, none, none, none, none, none, none, none, none, none, none, none, none, none, none, none, none, none, none, none, none, none, none, none, none, none, none, none, none, none, none, none, none, none, none, none, none, none, none, none, none, none, some (0, ("__init__" : Str)), some (0, ("spots" : Str)), some (0, ("is_fact" : Str)), some (0, ("holds" : Str))], [(0, "links"), (0, "marks"), (0, "pieces"), (0, "counts")], false⟩
def kdv : List (List (Str × PyData)) := [[("true", .int 0), ("false", .int 0), ("mark", .int 2), ("link", .int 3), ("same", .int 2), ("not", .int 1), ("and", .int 2), ("or", .int 2), ("some", .int 2), ("all", .int 2)]]
def fs : List Fn := [f0, f1, f2, f3, f4, f5, f6, f7, f8, f9, f10, f11, f12, f13, f14, f15, f16, f17, f18, f19, f20, f21, f22, f23, f24, f25, f26, f27, f28, f29, f30, f31, f32, f33, f34, f35, f36, f37, f38, f39, f40, f41, f42, f43, f44, f45]
def gvs : List W := [.d (.str "abcdefghijklmnopqrstuvwxyz"), .d (.str "abcdefghijklmnopqrstuvwxyz0123456789"), .d (.int 30), .d (.list [.str "all", .str "and", .str "false", .str "in", .str "link", .str "mark", .str "not", .str "or", .str "same", .str "some", .str "true"]), .d (.int 4), .d (.int 2), .d (.int 2000), .d (.int 1000000000), .d (.int 3), .d (.int 4), .d (.int 50), .d (.int 999999999999999999999999999999), .cls 1, .cls 2]
def anc : List (List Nat) := [[0], [1, 0], [2, 0], [3, 0], [4, 0]]
def hvs : List Bool := [false, true, true, true, true]
def gd : Gd := { v := fun n => gvs.getD n (.d .none), ex := fun c => decide (c < 5), hv := fun c => hvs.getD c false, sub := fun c t => if c < 5 then (match t with | .own j => if j < 5 then some (decide (j ∈ anc.getD c [])) else none | .ty x => if x = "ValueError" then some true else none) else none, kd := fun i => kdv[i]? }
end Law
namespace Law
open PySem MP
def top (n : Nat) : Stmt := PySem.Challenge.pw_depthquestions_k63_too_many_cuts.main.body.getD n (.Pass ⟨0, 0, 0, 0⟩)
def d0 : Df := ⟨"_law_cell", "_law_cell", top 61, ["script", "index"]⟩
def d1 : Df := ⟨"_law_generator", "_law_generator", top 62, ["script", "index", "seed"]⟩
def d2 : Df := ⟨"_law_hash", "_law_hash", top 59, ["seed", "index", "mixed"]⟩
def d3 : Df := ⟨"_law_random", "_law_random", top 60, ["generator", "bound", "drawn", "turn"]⟩
def d4 : Df := ⟨"is_word", "is_word", top 13, ["value", "letter"]⟩
def d5 : Df := ⟨"are_words", "are_words", top 14, ["value", "most", "item"]⟩
def d6 : Df := ⟨"twice_led", "twice_led", top 22, ["facts", "seen", "fact", "first", "second"]⟩
def d7 : Df := ⟨"is_whole", "is_whole", top 11, ["value"]⟩
def d8 : Df := ⟨"is_between", "is_between", top 12, ["value", "low", "high"]⟩
def d9 : Df := ⟨"is_item", "is_item", top 20, ["value"]⟩
def d10 : Df := ⟨"is_fact_of", "is_fact_of", top 21, ["marks", "columns", "items", "value"]⟩
def d11 : Df := ⟨"is_store_by", "is_store_by", top 23, ["value", "_", "marks", "columns", "items", "facts", "known", "item", "fact"]⟩
def d12 : Df := ⟨"are_pieces", "are_pieces", top 44, ["value", "piece"]⟩
def d13 : Df := ⟨"check_pieces", "check_pieces", top 46, ["pieces"]⟩
def d14 : Df := ⟨"parts_by", "parts_by", top 28, ["question"]⟩
def d15 : Df := ⟨"walk_by", "walk_by", top 32, ["question", "found", "waiting", "place", "here", "around", "more", "told", "at", "part"]⟩
def d16 : Df := ⟨"signs_by", "signs_by", top 36, ["question", "marks", "columns", "place", "here", "around"]⟩
def d17 : Df := ⟨"used_by", "used_by", top 29, ["question"]⟩
def d18 : Df := ⟨"free_by", "free_by", top 34, ["question", "found", "place", "here", "around", "name"]⟩
def d19 : Df := ⟨"words_by", "words_by", top 30, ["question"]⟩
def d20 : Df := ⟨"wrong_here", "wrong_here", top 31, ["value", "around", "word"]⟩
def d21 : Df := ⟨"first_wrong_by", "first_wrong_by", top 33, ["value", "waiting", "free", "place", "here", "around", "why", "more", "told", "at", "part"]⟩
def d22 : Df := ⟨"is_any_question", "is_any_question", top 37, ["value"]⟩
def d23 : Df := ⟨"is_question_by", "is_question_by", top 38, ["marks", "columns", "value", "told", "word"]⟩
def d24 : Df := ⟨"check_closed_of", "check_closed_of", top 48, ["pieces", "question"]⟩
def d25 : Df := ⟨"check_few_cuts", "check_few_cuts", top 52, ["most", "pieces", "many", "piece"]⟩
def d26 : Df := ⟨"rows_to", "rows_to", top 51, ["most", "many", "rows", "turn", "found", "row", "number"]⟩
def d27 : Df := ⟨"depth_by", "depth_by", top 35, ["question", "place", "here", "around"]⟩
def d28 : Df := ⟨"marks_by", "marks_by", top 25, ["store", "found", "fact", "item", "told"]⟩
def d29 : Df := ⟨"links_by", "links_by", top 24, ["store", "forward", "backward", "fact"]⟩
def d30 : Df := ⟨"holds_union", "holds_union", top 50, ["question", "pieces", "counts", "most", "count"]⟩
def d31 : Df := ⟨"cuts_by", "cuts_by", top 53, ["question", "pieces", "row"]⟩
def d32 : Df := ⟨"cuts", "cuts", top 55, ["question", "pieces"]⟩
def d33 : Df := ⟨"enough", "enough", top 56, ["question", "pieces", "at", "most", "found", "least", "row", "behind"]⟩
def d34 : Df := ⟨"parting_counts", "parting_counts", top 57, ["one", "other", "pieces", "most", "found", "row", "piece", "count"]⟩
def d35 : Df := ⟨"_law_many", "_law_many", top 64, ["door", "question", "pieces", "found", "error"]⟩
def d36 : Df := ⟨"_law_deep", "_law_deep", top 63, ["depth", "found", "at"]⟩
def d37 : Df := ⟨"_law_order_right", "_law_order_right", top 65, ["pieces", "told", "which", "error"]⟩
def d38 : Df := ⟨"are_counts", "are_counts", top 45, ["pieces", "value", "count"]⟩
def d39 : Df := ⟨"check_counts", "check_counts", top 47, ["pieces", "counts"]⟩
def d40 : Df := ⟨"holds_in_union", "holds_in_union", top 54, ["question", "pieces", "counts"]⟩
def d41 : Df := ⟨"law", "law", top 66, ["script", "generator", "lone", "none", "pieces", "depth", "many", "due", "door"]⟩
def d42 : Df := ⟨"__init__", "Lot.__init__", L2.inClass (top 49) 0, ["self", "pieces", "counts", "piece"]⟩
def d43 : Df := ⟨"spots", "Lot.spots", L2.inClass (top 49) 1, ["self", "names", "found", "number", "piece", "touched", "copy", "spot", "item"]⟩
def d44 : Df := ⟨"is_fact", "Lot.is_fact", L2.inClass (top 49) 2, ["self", "question", "names", "one", "other", "number", "copy", "item"]⟩
def d45 : Df := ⟨"holds", "Lot.holds", L2.inClass (top 49) 3, ["self", "question", "names", "word", "inner", "spot", "first"]⟩
def ts : List Df := [d0, d1, d2, d3, d4, d5, d6, d7, d8, d9, d10, d11, d12, d13, d14, d15, d16, d17, d18, d19, d20, d21, d22, d23, d24, d25, d26, d27, d28, d29, d30, d31, d32, d33, d34, d35, d36, d37, d38, d39, d40, d41, d42, d43, d44, d45]
end Law
namespace Law
open PySem MP L2 PyProof.Rows PySem.W
theorem c0 : dfOk T f0 d0 = true := by decide +kernel
theorem c1 : dfOk T f1 d1 = true := by decide +kernel
theorem c2 : dfOk T f2 d2 = true := by decide +kernel
theorem c3 : dfOk T f3 d3 = true := by decide +kernel
theorem c4 : dfOk T f4 d4 = true := by decide +kernel
theorem c5 : dfOk T f5 d5 = true := by decide +kernel
theorem c6 : dfOk T f6 d6 = true := by decide +kernel
theorem c7 : dfOk T f7 d7 = true := by decide +kernel
theorem c8 : dfOk T f8 d8 = true := by decide +kernel
theorem c9 : dfOk T f9 d9 = true := by decide +kernel
theorem c10 : dfOk T f10 d10 = true := by decide +kernel
theorem c11 : dfOk T f11 d11 = true := by decide +kernel
theorem c12 : dfOk T f12 d12 = true := by decide +kernel
theorem c13 : dfOk T f13 d13 = true := by decide +kernel
theorem c14 : dfOk T f14 d14 = true := by decide +kernel
theorem c15 : dfOk T f15 d15 = true := by decide +kernel
theorem c16 : dfOk T f16 d16 = true := by decide +kernel
theorem c17 : dfOk T f17 d17 = true := by decide +kernel
theorem c18 : dfOk T f18 d18 = true := by decide +kernel
theorem c19 : dfOk T f19 d19 = true := by decide +kernel
theorem c20 : dfOk T f20 d20 = true := by decide +kernel
theorem c21 : dfOk T f21 d21 = true := by decide +kernel
theorem c22 : dfOk T f22 d22 = true := by decide +kernel
theorem c23 : dfOk T f23 d23 = true := by decide +kernel
theorem c24 : dfOk T f24 d24 = true := by decide +kernel
theorem c25 : dfOk T f25 d25 = true := by decide +kernel
theorem c26 : dfOk T f26 d26 = true := by decide +kernel
theorem c27 : dfOk T f27 d27 = true := by decide +kernel
theorem c28 : dfOk T f28 d28 = true := by decide +kernel
theorem c29 : dfOk T f29 d29 = true := by decide +kernel
theorem c30 : dfOk T f30 d30 = true := by decide +kernel
theorem c31 : dfOk T f31 d31 = true := by decide +kernel
theorem c32 : dfOk T f32 d32 = true := by decide +kernel
theorem c33 : dfOk T f33 d33 = true := by decide +kernel
theorem c34 : dfOk T f34 d34 = true := by decide +kernel
theorem c35 : dfOk T f35 d35 = true := by decide +kernel
theorem c36 : dfOk T f36 d36 = true := by decide +kernel
theorem c37 : dfOk T f37 d37 = true := by decide +kernel
theorem c38 : dfOk T f38 d38 = true := by decide +kernel
theorem c39 : dfOk T f39 d39 = true := by decide +kernel
theorem c40 : dfOk T f40 d40 = true := by decide +kernel
theorem c41 : dfOk T f41 d41 = true := by decide +kernel
theorem c42 : dfOk T f42 d42 = true := by decide +kernel
theorem c43 : dfOk T f43 d43 = true := by decide +kernel
theorem c44 : dfOk T f44 d44 = true := by decide +kernel
theorem c45 : dfOk T f45 d45 = true := by decide +kernel
theorem chk : ∀ (i : Nat) (d : Fn) (t : Df), fs[i]? = some d → ts[i]? = some t → dfOk T d t = true
  | 0, _, _, h1, h2 => by cases h1; cases h2; exact c0
  | 1, _, _, h1, h2 => by cases h1; cases h2; exact c1
  | 2, _, _, h1, h2 => by cases h1; cases h2; exact c2
  | 3, _, _, h1, h2 => by cases h1; cases h2; exact c3
  | 4, _, _, h1, h2 => by cases h1; cases h2; exact c4
  | 5, _, _, h1, h2 => by cases h1; cases h2; exact c5
  | 6, _, _, h1, h2 => by cases h1; cases h2; exact c6
  | 7, _, _, h1, h2 => by cases h1; cases h2; exact c7
  | 8, _, _, h1, h2 => by cases h1; cases h2; exact c8
  | 9, _, _, h1, h2 => by cases h1; cases h2; exact c9
  | 10, _, _, h1, h2 => by cases h1; cases h2; exact c10
  | 11, _, _, h1, h2 => by cases h1; cases h2; exact c11
  | 12, _, _, h1, h2 => by cases h1; cases h2; exact c12
  | 13, _, _, h1, h2 => by cases h1; cases h2; exact c13
  | 14, _, _, h1, h2 => by cases h1; cases h2; exact c14
  | 15, _, _, h1, h2 => by cases h1; cases h2; exact c15
  | 16, _, _, h1, h2 => by cases h1; cases h2; exact c16
  | 17, _, _, h1, h2 => by cases h1; cases h2; exact c17
  | 18, _, _, h1, h2 => by cases h1; cases h2; exact c18
  | 19, _, _, h1, h2 => by cases h1; cases h2; exact c19
  | 20, _, _, h1, h2 => by cases h1; cases h2; exact c20
  | 21, _, _, h1, h2 => by cases h1; cases h2; exact c21
  | 22, _, _, h1, h2 => by cases h1; cases h2; exact c22
  | 23, _, _, h1, h2 => by cases h1; cases h2; exact c23
  | 24, _, _, h1, h2 => by cases h1; cases h2; exact c24
  | 25, _, _, h1, h2 => by cases h1; cases h2; exact c25
  | 26, _, _, h1, h2 => by cases h1; cases h2; exact c26
  | 27, _, _, h1, h2 => by cases h1; cases h2; exact c27
  | 28, _, _, h1, h2 => by cases h1; cases h2; exact c28
  | 29, _, _, h1, h2 => by cases h1; cases h2; exact c29
  | 30, _, _, h1, h2 => by cases h1; cases h2; exact c30
  | 31, _, _, h1, h2 => by cases h1; cases h2; exact c31
  | 32, _, _, h1, h2 => by cases h1; cases h2; exact c32
  | 33, _, _, h1, h2 => by cases h1; cases h2; exact c33
  | 34, _, _, h1, h2 => by cases h1; cases h2; exact c34
  | 35, _, _, h1, h2 => by cases h1; cases h2; exact c35
  | 36, _, _, h1, h2 => by cases h1; cases h2; exact c36
  | 37, _, _, h1, h2 => by cases h1; cases h2; exact c37
  | 38, _, _, h1, h2 => by cases h1; cases h2; exact c38
  | 39, _, _, h1, h2 => by cases h1; cases h2; exact c39
  | 40, _, _, h1, h2 => by cases h1; cases h2; exact c40
  | 41, _, _, h1, h2 => by cases h1; cases h2; exact c41
  | 42, _, _, h1, h2 => by cases h1; cases h2; exact c42
  | 43, _, _, h1, h2 => by cases h1; cases h2; exact c43
  | 44, _, _, h1, h2 => by cases h1; cases h2; exact c44
  | 45, _, _, h1, h2 => by cases h1; cases h2; exact c45
  | _ + 46, _, _, h1, _ => by simp [fs] at h1
theorem bnd : ∀ (i : Nat) (t : Df) (d : Fn), ts[i]? = some t → fs[i]? = some d → ∀ (kV doc pm : Value) (an : Option Addr) (cdv ct : Value) (us : List Value), us.length = (t.N.take d.np).length →
      bindArgs (fnOf t.x t.q (defArgs t.st) (defBody t.st) (defScope t.st) .none kV doc pm an cdv ct) ⟨us, []⟩ = pure ((t.N.take d.np).zip us)
  | 0, _, _, h1, h2 => by
    cases h1; cases h2
    intro _ _ _ _ _ _ us hl
    match us, hl with
    | [_, _], _ => rfl
  | 1, _, _, h1, h2 => by
    cases h1; cases h2
    intro _ _ _ _ _ _ us hl
    match us, hl with
    | [_, _], _ => rfl
  | 2, _, _, h1, h2 => by
    cases h1; cases h2
    intro _ _ _ _ _ _ us hl
    match us, hl with
    | [_, _], _ => rfl
  | 3, _, _, h1, h2 => by
    cases h1; cases h2
    intro _ _ _ _ _ _ us hl
    match us, hl with
    | [_, _], _ => rfl
  | 4, _, _, h1, h2 => by
    cases h1; cases h2
    intro _ _ _ _ _ _ us hl
    match us, hl with
    | [_], _ => rfl
  | 5, _, _, h1, h2 => by
    cases h1; cases h2
    intro _ _ _ _ _ _ us hl
    match us, hl with
    | [_, _], _ => rfl
  | 6, _, _, h1, h2 => by
    cases h1; cases h2
    intro _ _ _ _ _ _ us hl
    match us, hl with
    | [_], _ => rfl
  | 7, _, _, h1, h2 => by
    cases h1; cases h2
    intro _ _ _ _ _ _ us hl
    match us, hl with
    | [_], _ => rfl
  | 8, _, _, h1, h2 => by
    cases h1; cases h2
    intro _ _ _ _ _ _ us hl
    match us, hl with
    | [_, _, _], _ => rfl
  | 9, _, _, h1, h2 => by
    cases h1; cases h2
    intro _ _ _ _ _ _ us hl
    match us, hl with
    | [_], _ => rfl
  | 10, _, _, h1, h2 => by
    cases h1; cases h2
    intro _ _ _ _ _ _ us hl
    match us, hl with
    | [_, _, _, _], _ => rfl
  | 11, _, _, h1, h2 => by
    cases h1; cases h2
    intro _ _ _ _ _ _ us hl
    match us, hl with
    | [_], _ => rfl
  | 12, _, _, h1, h2 => by
    cases h1; cases h2
    intro _ _ _ _ _ _ us hl
    match us, hl with
    | [_], _ => rfl
  | 13, _, _, h1, h2 => by
    cases h1; cases h2
    intro _ _ _ _ _ _ us hl
    match us, hl with
    | [_], _ => rfl
  | 14, _, _, h1, h2 => by
    cases h1; cases h2
    intro _ _ _ _ _ _ us hl
    match us, hl with
    | [_], _ => rfl
  | 15, _, _, h1, h2 => by
    cases h1; cases h2
    intro _ _ _ _ _ _ us hl
    match us, hl with
    | [_], _ => rfl
  | 16, _, _, h1, h2 => by
    cases h1; cases h2
    intro _ _ _ _ _ _ us hl
    match us, hl with
    | [_], _ => rfl
  | 17, _, _, h1, h2 => by
    cases h1; cases h2
    intro _ _ _ _ _ _ us hl
    match us, hl with
    | [_], _ => rfl
  | 18, _, _, h1, h2 => by
    cases h1; cases h2
    intro _ _ _ _ _ _ us hl
    match us, hl with
    | [_], _ => rfl
  | 19, _, _, h1, h2 => by
    cases h1; cases h2
    intro _ _ _ _ _ _ us hl
    match us, hl with
    | [_], _ => rfl
  | 20, _, _, h1, h2 => by
    cases h1; cases h2
    intro _ _ _ _ _ _ us hl
    match us, hl with
    | [_, _], _ => rfl
  | 21, _, _, h1, h2 => by
    cases h1; cases h2
    intro _ _ _ _ _ _ us hl
    match us, hl with
    | [_], _ => rfl
  | 22, _, _, h1, h2 => by
    cases h1; cases h2
    intro _ _ _ _ _ _ us hl
    match us, hl with
    | [_], _ => rfl
  | 23, _, _, h1, h2 => by
    cases h1; cases h2
    intro _ _ _ _ _ _ us hl
    match us, hl with
    | [_, _, _], _ => rfl
  | 24, _, _, h1, h2 => by
    cases h1; cases h2
    intro _ _ _ _ _ _ us hl
    match us, hl with
    | [_, _], _ => rfl
  | 25, _, _, h1, h2 => by
    cases h1; cases h2
    intro _ _ _ _ _ _ us hl
    match us, hl with
    | [_, _], _ => rfl
  | 26, _, _, h1, h2 => by
    cases h1; cases h2
    intro _ _ _ _ _ _ us hl
    match us, hl with
    | [_, _], _ => rfl
  | 27, _, _, h1, h2 => by
    cases h1; cases h2
    intro _ _ _ _ _ _ us hl
    match us, hl with
    | [_], _ => rfl
  | 28, _, _, h1, h2 => by
    cases h1; cases h2
    intro _ _ _ _ _ _ us hl
    match us, hl with
    | [_], _ => rfl
  | 29, _, _, h1, h2 => by
    cases h1; cases h2
    intro _ _ _ _ _ _ us hl
    match us, hl with
    | [_], _ => rfl
  | 30, _, _, h1, h2 => by
    cases h1; cases h2
    intro _ _ _ _ _ _ us hl
    match us, hl with
    | [_, _, _], _ => rfl
  | 31, _, _, h1, h2 => by
    cases h1; cases h2
    intro _ _ _ _ _ _ us hl
    match us, hl with
    | [_, _], _ => rfl
  | 32, _, _, h1, h2 => by
    cases h1; cases h2
    intro _ _ _ _ _ _ us hl
    match us, hl with
    | [_, _], _ => rfl
  | 33, _, _, h1, h2 => by
    cases h1; cases h2
    intro _ _ _ _ _ _ us hl
    match us, hl with
    | [_, _, _], _ => rfl
  | 34, _, _, h1, h2 => by
    cases h1; cases h2
    intro _ _ _ _ _ _ us hl
    match us, hl with
    | [_, _, _], _ => rfl
  | 35, _, _, h1, h2 => by
    cases h1; cases h2
    intro _ _ _ _ _ _ us hl
    match us, hl with
    | [_, _, _], _ => rfl
  | 36, _, _, h1, h2 => by
    cases h1; cases h2
    intro _ _ _ _ _ _ us hl
    match us, hl with
    | [_], _ => rfl
  | 37, _, _, h1, h2 => by
    cases h1; cases h2
    intro _ _ _ _ _ _ us hl
    match us, hl with
    | [_], _ => rfl
  | 38, _, _, h1, h2 => by
    cases h1; cases h2
    intro _ _ _ _ _ _ us hl
    match us, hl with
    | [_, _], _ => rfl
  | 39, _, _, h1, h2 => by
    cases h1; cases h2
    intro _ _ _ _ _ _ us hl
    match us, hl with
    | [_, _], _ => rfl
  | 40, _, _, h1, h2 => by
    cases h1; cases h2
    intro _ _ _ _ _ _ us hl
    match us, hl with
    | [_, _, _], _ => rfl
  | 41, _, _, h1, h2 => by
    cases h1; cases h2
    intro _ _ _ _ _ _ us hl
    match us, hl with
    | [_], _ => rfl
  | 42, _, _, h1, h2 => by
    cases h1; cases h2
    intro _ _ _ _ _ _ us hl
    match us, hl with
    | [_, _, _], _ => rfl
  | 43, _, _, h1, h2 => by
    cases h1; cases h2
    intro _ _ _ _ _ _ us hl
    match us, hl with
    | [_, _], _ => rfl
  | 44, _, _, h1, h2 => by
    cases h1; cases h2
    intro _ _ _ _ _ _ us hl
    match us, hl with
    | [_, _, _], _ => rfl
  | 45, _, _, h1, h2 => by
    cases h1; cases h2
    intro _ _ _ _ _ _ us hl
    match us, hl with
    | [_, _, _], _ => rfl
  | _ + 46, _, _, h1, _ => by simp [ts] at h1
theorem bndL (K : Frag) : ∀ (f : Addr) (fd : FuncData) (dL : Fn) (tL : Df), fs[41]? = some dL → ts[41]? = some tL → L2.Fun K tL.x tL.q tL.st f fd → ∀ (s : Shared) (u : Value), BindsTo s fd ⟨[u], []⟩ [("script", u)] := by
  intro f fd dL tL h1 h2 F s u
  cases h1; cases h2
  obtain ⟨oc, od, kV, doc, pm, an, cdv, ct, osl, rfl, _⟩ := F.ex
  exact .of_eq rfl
theorem ent {prog : Program} {w : World} {K : Frag} {h : Heap} {mg : Str → Option Value} (KX : K.In h) (G : h.Ns mainGlobals mg)
    (F0 : FnF K d0)
    (F1 : FnF K d1)
    (F2 : FnF K d2)
    (F3 : FnF K d3)
    (F4 : FnF K d4)
    (F5 : FnF K d5)
    (F6 : FnF K d6)
    (F7 : FnF K d7)
    (F8 : FnF K d8)
    (F9 : FnF K d9)
    (F10 : FnF K d10)
    (F11 : FnF K d11)
    (F12 : FnF K d12)
    (F13 : FnF K d13)
    (F14 : FnF K d14)
    (F15 : FnF K d15)
    (F16 : FnF K d16)
    (F17 : FnF K d17)
    (F18 : FnF K d18)
    (F19 : FnF K d19)
    (F20 : FnF K d20)
    (F21 : FnF K d21)
    (F22 : FnF K d22)
    (F23 : FnF K d23)
    (F24 : FnF K d24)
    (F25 : FnF K d25)
    (F26 : FnF K d26)
    (F27 : FnF K d27)
    (F28 : FnF K d28)
    (F29 : FnF K d29)
    (F30 : FnF K d30)
    (F31 : FnF K d31)
    (F32 : FnF K d32)
    (F33 : FnF K d33)
    (F34 : FnF K d34)
    (F35 : FnF K d35)
    (F36 : FnF K d36)
    (F37 : FnF K d37)
    (F38 : FnF K d38)
    (F39 : FnF K d39)
    (F40 : FnF K d40)
    (F41 : FnF K d41)
    (F42 : MtF K "Lot" d42)
    (F43 : MtF K "Lot" d43)
    (F44 : MtF K "Lot" d44)
    (F45 : MtF K "Lot" d45)
    (L0 : KlX K "Lot" ["links", "marks", "pieces", "counts"])
    (D0 : KdX w K "PARTS" (kdv.getD 0 []))
    (X0 : ClX prog K "StoreError" false)
    (X1 : ClX prog K "InvalidQuestion" true)
    (X2 : ClX prog K "InvalidNumber" true)
    (X3 : ClX prog K "InvalidList" true)
    (X4 : ClX prog K "TooMany" true)
    (Y0 : GlOk (g0Of T gd K) (gvs.getD 0 (.d .none)) "FIRST_LETTERS")
    (Y1 : GlOk (g0Of T gd K) (gvs.getD 1 (.d .none)) "LETTERS")
    (Y2 : GlOk (g0Of T gd K) (gvs.getD 2 (.d .none)) "LONGEST_WORD")
    (Y3 : GlOk (g0Of T gd K) (gvs.getD 3 (.d .none)) "RESERVED")
    (Y4 : GlOk (g0Of T gd K) (gvs.getD 4 (.d .none)) "MOST_MARKS")
    (Y5 : GlOk (g0Of T gd K) (gvs.getD 5 (.d .none)) "MOST_COLUMNS")
    (Y6 : GlOk (g0Of T gd K) (gvs.getD 6 (.d .none)) "MOST_ITEMS")
    (Y7 : GlOk (g0Of T gd K) (gvs.getD 7 (.d .none)) "GREATEST_ITEM")
    (Y8 : GlOk (g0Of T gd K) (gvs.getD 8 (.d .none)) "MOST_PIECES")
    (Y9 : GlOk (g0Of T gd K) (gvs.getD 9 (.d .none)) "MOST_IN_PIECE")
    (Y10 : GlOk (g0Of T gd K) (gvs.getD 10 (.d .none)) "MOST_CUTS")
    (Y11 : GlOk (g0Of T gd K) (gvs.getD 11 (.d .none)) "GREATEST_COUNT")
    (z_len : nsIn K mainGlobals "len" = some none)
    (z_isinstance : nsIn K mainGlobals "isinstance" = some none)
    (z_max : nsIn K mainGlobals "max" = some none)
    (z_sum : nsIn K mainGlobals "sum" = some none)
    (z_sorted : nsIn K mainGlobals "sorted" = some none)
    (z_int : nsIn K mainGlobals "int" = some none)
    (z_list : nsIn K mainGlobals "list" = some none)
    (z_tuple : nsIn K mainGlobals "tuple" = some none)
    (z_repr : nsIn K mainGlobals "repr" = some none)
    (z_set : nsIn K mainGlobals "set" = some none)
    (z_min : nsIn K mainGlobals "min" = some none)
    (z_str : nsIn K mainGlobals "str" = some none)
    (z_dict : nsIn K mainGlobals "dict" = some none)
    (z_bool : nsIn K mainGlobals "bool" = some none)
    (z_ValueError : nsIn K mainGlobals "ValueError" = some none)
    (z_range : nsIn K mainGlobals "range" = some none)
    (z_enumerate : nsIn K mainGlobals "enumerate" = some none)
    (z_zip : nsIn K mainGlobals "zip" = some none)
    (kit : kitB K 5 (fun i => clOf K (T.cls.getD i "")) gd = true) :
    Ent prog w (g0Of T gd K) mg T fs ts gd (gvsOf T K) := by
  have hc : ∀ (i : Nat) (x : Str), T.cls[i]? = some x → ClX prog K x (gd.hv i) := fun i x h => by
    rcases i with _ | i
    · cases h; exact X0
    rcases i with _ | i
    · cases h; exact X1
    rcases i with _ | i
    · cases h; exact X2
    rcases i with _ | i
    · cases h; exact X3
    rcases i with _ | i
    · cases h; exact X4
    · simp [T] at h
  refine ent_of KX G ⟨by decide, by decide, rfl⟩ chk (fun i t ht => ?_) bnd hc (fun i x h => ?_) (fun i h => ?_) (fun c x h => ?_) (fun c x h => ?_) (fun i x h => ?_) rfl (gdOk_mk (n := 5) rfl (fun _ => rfl) (fun c h => of_decide_eq_true h) (fun c t b h => ?_) kit (fun i l h z => ?_)) (fun b => ?_) (fun t ht => ?_) z_range z_enumerate z_zip
  · skip
    rcases i with _ | i
    · cases ht; exact .inl ⟨rfl, no_at rfl, F0⟩
    rcases i with _ | i
    · cases ht; exact .inl ⟨rfl, no_at rfl, F1⟩
    rcases i with _ | i
    · cases ht; exact .inl ⟨rfl, no_at rfl, F2⟩
    rcases i with _ | i
    · cases ht; exact .inl ⟨rfl, no_at rfl, F3⟩
    rcases i with _ | i
    · cases ht; exact .inl ⟨rfl, no_at rfl, F4⟩
    rcases i with _ | i
    · cases ht; exact .inl ⟨rfl, no_at rfl, F5⟩
    rcases i with _ | i
    · cases ht; exact .inl ⟨rfl, no_at rfl, F6⟩
    rcases i with _ | i
    · cases ht; exact .inl ⟨rfl, no_at rfl, F7⟩
    rcases i with _ | i
    · cases ht; exact .inl ⟨rfl, no_at rfl, F8⟩
    rcases i with _ | i
    · cases ht; exact .inl ⟨rfl, no_at rfl, F9⟩
    rcases i with _ | i
    · cases ht; exact .inl ⟨rfl, no_at rfl, F10⟩
    rcases i with _ | i
    · cases ht; exact .inl ⟨rfl, no_at rfl, F11⟩
    rcases i with _ | i
    · cases ht; exact .inl ⟨rfl, no_at rfl, F12⟩
    rcases i with _ | i
    · cases ht; exact .inl ⟨rfl, no_at rfl, F13⟩
    rcases i with _ | i
    · cases ht; exact .inl ⟨rfl, no_at rfl, F14⟩
    rcases i with _ | i
    · cases ht; exact .inl ⟨rfl, no_at rfl, F15⟩
    rcases i with _ | i
    · cases ht; exact .inl ⟨rfl, no_at rfl, F16⟩
    rcases i with _ | i
    · cases ht; exact .inl ⟨rfl, no_at rfl, F17⟩
    rcases i with _ | i
    · cases ht; exact .inl ⟨rfl, no_at rfl, F18⟩
    rcases i with _ | i
    · cases ht; exact .inl ⟨rfl, no_at rfl, F19⟩
    rcases i with _ | i
    · cases ht; exact .inl ⟨rfl, no_at rfl, F20⟩
    rcases i with _ | i
    · cases ht; exact .inl ⟨rfl, no_at rfl, F21⟩
    rcases i with _ | i
    · cases ht; exact .inl ⟨rfl, no_at rfl, F22⟩
    rcases i with _ | i
    · cases ht; exact .inl ⟨rfl, no_at rfl, F23⟩
    rcases i with _ | i
    · cases ht; exact .inl ⟨rfl, no_at rfl, F24⟩
    rcases i with _ | i
    · cases ht; exact .inl ⟨rfl, no_at rfl, F25⟩
    rcases i with _ | i
    · cases ht; exact .inl ⟨rfl, no_at rfl, F26⟩
    rcases i with _ | i
    · cases ht; exact .inl ⟨rfl, no_at rfl, F27⟩
    rcases i with _ | i
    · cases ht; exact .inl ⟨rfl, no_at rfl, F28⟩
    rcases i with _ | i
    · cases ht; exact .inl ⟨rfl, no_at rfl, F29⟩
    rcases i with _ | i
    · cases ht; exact .inl ⟨rfl, no_at rfl, F30⟩
    rcases i with _ | i
    · cases ht; exact .inl ⟨rfl, no_at rfl, F31⟩
    rcases i with _ | i
    · cases ht; exact .inl ⟨rfl, no_at rfl, F32⟩
    rcases i with _ | i
    · cases ht; exact .inl ⟨rfl, no_at rfl, F33⟩
    rcases i with _ | i
    · cases ht; exact .inl ⟨rfl, no_at rfl, F34⟩
    rcases i with _ | i
    · cases ht; exact .inl ⟨rfl, no_at rfl, F35⟩
    rcases i with _ | i
    · cases ht; exact .inl ⟨rfl, no_at rfl, F36⟩
    rcases i with _ | i
    · cases ht; exact .inl ⟨rfl, no_at rfl, F37⟩
    rcases i with _ | i
    · cases ht; exact .inl ⟨rfl, no_at rfl, F38⟩
    rcases i with _ | i
    · cases ht; exact .inl ⟨rfl, no_at rfl, F39⟩
    rcases i with _ | i
    · cases ht; exact .inl ⟨rfl, no_at rfl, F40⟩
    rcases i with _ | i
    · cases ht; exact .inl ⟨rfl, no_at rfl, F41⟩
    rcases i with _ | i
    · cases ht; exact .inr ⟨no_at rfl, 0, "Lot", rfl, rfl, F42⟩
    rcases i with _ | i
    · cases ht; exact .inr ⟨no_at rfl, 0, "Lot", rfl, rfl, F43⟩
    rcases i with _ | i
    · cases ht; exact .inr ⟨no_at rfl, 0, "Lot", rfl, rfl, F44⟩
    rcases i with _ | i
    · cases ht; exact .inr ⟨no_at rfl, 0, "Lot", rfl, rfl, F45⟩
    · simp [ts] at ht
  · skip
    rcases i with _ | i
    · cases h; exact Y0
    rcases i with _ | i
    · cases h; exact Y1
    rcases i with _ | i
    · cases h; exact Y2
    rcases i with _ | i
    · cases h; exact Y3
    rcases i with _ | i
    · cases h; exact Y4
    rcases i with _ | i
    · cases h; exact Y5
    rcases i with _ | i
    · cases h; exact Y6
    rcases i with _ | i
    · cases h; exact Y7
    rcases i with _ | i
    · cases h; exact Y8
    rcases i with _ | i
    · cases h; exact Y9
    rcases i with _ | i
    · cases h; exact Y10
    rcases i with _ | i
    · cases h; exact Y11
    rcases i with _ | i
    · cases h; exact gl_cls X1 rfl
    rcases i with _ | i
    · cases h; exact gl_cls X2 rfl
    · simp [T] at h
  · show gvs.getD i (.d .none) = _
    rw [List.getD_eq_getElem?_getD]
    have hl : gvs.length ≤ i := by
      have := List.getElem?_eq_none_iff.mp h
      exact this
    rw [List.getElem?_eq_none_iff.mpr hl]
    rfl
  · skip
    rcases c with _ | c
    · cases h; exact L0
    · simp [T] at h
  · simp only [T, List.mem_cons, List.not_mem_nil, or_false] at h
    rcases h with h | h | h | h <;> (cases h; exact ⟨_, rfl⟩)
  · skip
    rcases i with _ | i
    · cases h; exact ⟨_, D0⟩
    · simp [T] at h
  · dsimp only [gd] at h
    split at h
    · rename_i hc
      refine ⟨hc, decide_eq_true hc, ?_⟩
      split at h
      · split at h
        · assumption
        · cases h
      · split at h
        · assumption
        · cases h
    · cases h
  · skip
    rcases i with _ | i
    · cases h; exact (D0.look z)
    · simp [gd, kdv] at h
  · cases b
    · exact z_len
    · exact z_isinstance
    · exact z_max
    · exact z_sum
    · exact z_sorted
    · exact z_int
    · exact z_list
    · exact z_tuple
    · exact z_repr
    · exact z_set
    · exact z_min
    · exact z_str
    · exact z_dict
  · simp only [tyNames, List.mem_cons, List.not_mem_nil, or_false] at ht
    rcases ht with rfl | rfl | rfl | rfl | rfl | rfl | rfl
    · exact z_int
    · exact z_bool
    · exact z_str
    · exact z_list
    · exact z_tuple
    · exact z_dict
    · exact z_ValueError
end Law
namespace MP
open PySem
/-! ## words for the plain part -/
def fin (raw : Bool) (n : Nat) (r : RS) : R W := match r with
  | .ret w S' => leaveW raw n w S'
  | .next _ S' => leaveW raw n (.d .none) S'
  | .exc c v _ S' => (match leaveW false n v S' with | .ok w S2 => .exc c w S2 | _ => .bad)
  | _ => .bad
theorem run_eq {fs : List Fn} {gd : Gd} {wf n f : Nat} {ws : List W} {S : Sto} {d : Fn} (hd : fs[f]? = some d) (hl : ws.length = d.np) :
    runF fs gd wf (n + 1) f ws S = fin d.raw S.length (exSs (runF fs gd wf n) gd wf d.body (ws.map some ++ List.replicate (d.nn - ws.length) none) S) := by
  unfold runF
  rw [hd]
  simp only [hl, if_true]
  rfl
theorem bits_le {i : Int} {n : Nat} (h : i.natAbs < 2 ^ n) : Builtin.Int.intBits i ≤ n + 1 := by
  have b : Builtin.Int.intBits i ≤ i.natAbs.log2 + 1 := by
    unfold Builtin.Int.intBits
    split <;> omega
  by_cases h0 : i.natAbs = 0
  · rw [h0] at b
    have : Nat.log2 0 = 0 := by decide
    omega
  · have := (Nat.log2_lt h0).mpr h
    omega
/-- below 10 ^ 30 -/
def Small (i : Int) : Prop := -1000000000000000000000000000000 ≤ i ∧ i ≤ 1000000000000000000000000000000
theorem Small.bits {i : Int} (h : Small i) : Builtin.Int.intBits i ≤ 101 := by
  refine bits_le (n := 100) ?_
  have e : (2 : Nat) ^ 100 = 1267650600228229401496703205376 := by decide
  rw [e]
  have h1 := h.1
  have h2 := h.2
  omega
theorem mul_bits {i j : Int} (hi : Small i) (hj : Small j) : (Builtin.Int.intBits i : Int) + (Builtin.Int.intBits j : Int) ≤ 134217728 := by
  have := hi.bits
  have := hj.bits
  omega
theorem ev_mul {m : Bool} {i j : Int} {S : Sto} (hi : Small i) (hj : Small j) : op2 .mul m (.d (.int i)) (.d (.int j)) S = .ok (.d (.int (i * j))) S := by
  show (if _ then _ else _) = _
  exact if_pos (mul_bits hi hj)
theorem ev_add {m : Bool} {i j : Int} {S : Sto} : op2 .add m (.d (.int i)) (.d (.int j)) S = .ok (.d (.int (i + j))) S := rfl
theorem ev_sub {m : Bool} {i j : Int} {S : Sto} : op2 .sub m (.d (.int i)) (.d (.int j)) S = .ok (.d (.int (i - j))) S := rfl
theorem ev_gt {m : Bool} {i j : Int} {S : Sto} : op2 .gt m (.d (.int i)) (.d (.int j)) S = .ok (.d (.bool (decide (j < i)))) S := rfl
theorem ev_lt {m : Bool} {i j : Int} {S : Sto} : op2 .lt m (.d (.int i)) (.d (.int j)) S = .ok (.d (.bool (decide (i < j)))) S := rfl
theorem ev_mod {m : Bool} {i j : Int} {S : Sto} (hj : j ≠ 0) : op2 .mod m (.d (.int i)) (.d (.int j)) S = .ok (.d (.int (i.fmod j))) S := by
  show (if _ then _ else _) = _
  exact if_pos hj
theorem ev_fdiv {m : Bool} {i j : Int} {S : Sto} (h1 : 0 < j) (h2 : j.natAbs.log2 < 9000) : op2 .fdiv m (.d (.int i)) (.d (.int j)) S = .ok (.d (.int (i / j))) S := by
  show (if _ then _ else _) = _
  exact if_pos ⟨h1, h2⟩
theorem ev_gtT {m : Bool} {i j : Int} {S : Sto} (h : j < i) : op2 .gt m (.d (.int i)) (.d (.int j)) S = .ok (.d (.bool true)) S := by rw [ev_gt, decide_eq_true h]
theorem ev_gtF {m : Bool} {i j : Int} {S : Sto} (h : ¬ j < i) : op2 .gt m (.d (.int i)) (.d (.int j)) S = .ok (.d (.bool false)) S := by rw [ev_gt, decide_eq_false h]
theorem ev_ltT {m : Bool} {i j : Int} {S : Sto} (h : i < j) : op2 .lt m (.d (.int i)) (.d (.int j)) S = .ok (.d (.bool true)) S := by rw [ev_lt, decide_eq_true h]
theorem ev_ltF {m : Bool} {i j : Int} {S : Sto} (h : ¬ i < j) : op2 .lt m (.d (.int i)) (.d (.int j)) S = .ok (.d (.bool false)) S := by rw [ev_lt, decide_eq_false h]
theorem ev_addE {m : Bool} {i j x : Int} {S : Sto} (h : i + j = x) : op2 .add m (.d (.int i)) (.d (.int j)) S = .ok (.d (.int x)) S := by rw [ev_add, h]
end MP
namespace MP
open PySem
section
variable (F : Nat → List W → Sto → R W) (gd : Gd) (wf : Nat) (ρ : Rho) (S : Sto)
theorem evE_var (i : Nat) : evE F gd (.var i) ρ S = (match ρ[i]? with | some (some w) => .ok w S | _ => .bad) := rfl
theorem evE_cst (c : Cst) : evE F gd (.cst c) ρ S = .ok (.d c.D) S := rfl
theorem evE_glb (i : Nat) : evE F gd (.glb i) ρ S = .ok (gd.v i) S := rfl
theorem evE_ty (t : String) : evE F gd (.ty t) ρ S = .ok (.ty t) S := rfl
theorem evE_op (o : Op2) (m : Bool) (a b : ME) : evE F gd (.op o m a b) ρ S = (evE F gd a ρ S).bind fun x S => (evE F gd b ρ S).bind fun y S => op2 o m x y S := rfl
theorem evE_and (a b : ME) : evE F gd (.and a b) ρ S = (evE F gd a ρ S).bind fun x S => match tru S x with | some true => evE F gd b ρ S | some false => .ok x S | none => .bad := rfl
theorem evE_or (a b : ME) : evE F gd (.or a b) ρ S = (evE F gd a ρ S).bind fun x S => match tru S x with | some true => .ok x S | some false => evE F gd b ρ S | none => .bad := rfl
theorem evE_not (a : ME) : evE F gd (.not a) ρ S = (evE F gd a ρ S).bind fun x S => match tru S x with | some k => .ok (.d (.bool (!k))) S | none => .bad := rfl
theorem evE_ife (c a b : ME) : evE F gd (.ife c a b) ρ S = (evT F gd c ρ S).bind fun k S => if k then evE F gd a ρ S else evE F gd b ρ S := rfl
theorem evE_tup (l : MEs) : evE F gd (.tup l) ρ S = (evEs F gd l ρ S).bind fun ws S => if ws.length ≤ lim then mkT ws S else .bad := rfl
theorem evE_lst (m : Bool) (l : MEs) : evE F gd (.lst m l) ρ S = (evEs F gd l ρ S).bind fun ws S => if ws.length ≤ lim then mkL m ws S else .bad := rfl
theorem evE_ix (a b : ME) : evE F gd (.ix a b) ρ S = (evE F gd a ρ S).bind fun x S => (evE F gd b ρ S).bind fun y S => ixW x y S := rfl
theorem evE_sl (a : ME) (lo hi : MO) : evE F gd (.sl a lo hi) ρ S = (evE F gd a ρ S).bind fun x S => (evO F gd lo ρ S).bind fun l S => (evO F gd hi ρ S).bind fun h S => slW x l h S := rfl
theorem evE_bi (b : Bi) (m : Bool) (l : MEs) : evE F gd (.bi b m l) ρ S = (evEs F gd l ρ S).bind fun ws S => biW gd b m ws S := rfl
theorem evE_bits (a : ME) : evE F gd (.bits a) ρ S = (evE F gd a ρ S).bind fun x S => match x with | .d (.int i) => .ok (.d (.int (Builtin.Int.intBits i : Nat))) S | _ => .bad := rfl
theorem evE_call (f : Nat) (l : MEs) : evE F gd (.call f l) ρ S = (evEs F gd l ρ S).bind fun ws S => F f ws S := rfl
theorem evE_mt (k : Mt) (o : ME) (l : MEs) : evE F gd (.mt k o l) ρ S = (match l with | .star _ _ => .bad | l => (evE F gd o ρ S).bind fun x S => if mtTy k S x then (evEs F gd l ρ S).bind fun ws S => mtW k x ws S else .bad) := by cases l <;> rfl
theorem evE_mk0 (c : Nat) (k : Bool) : evE F gd (.mk c .nil k) ρ S = if gd.ex c then .ok (.exn c (.d .none)) S else .bad := rfl
theorem evE_mk1 (c : Nat) (a : ME) (k : Bool) : evE F gd (.mk c (.cons a .nil) k) ρ S = if gd.hv c && gd.ex c then (evE F gd a ρ S).bind fun w S => .ok (.exn c w) S else .bad := rfl
theorem evE_val (a : ME) : evE F gd (.val a) ρ S = (evE F gd a ρ S).bind fun x S => valW gd x S := rfl
theorem evEs_nil : evEs F gd .nil ρ S = .ok [] S := rfl
theorem evEs_cons (a : ME) (r : MEs) : evEs F gd (.cons a r) ρ S = (evE F gd a ρ S).bind fun x S => (evEs F gd r ρ S).bind fun l S => .ok (x :: l) S := rfl
theorem evO_none : evO F gd .none ρ S = .ok none S := rfl
theorem evO_some (a : ME) : evO F gd (.some a) ρ S = (evE F gd a ρ S).bind fun x S => match x with | .d (.int i) => .ok (some i) S | _ => .bad := rfl
theorem evT_op (o : Op2) (m : Bool) (a b : ME) : evT F gd (.op o m a b) ρ S = (evE F gd a ρ S).bind fun x S => (evE F gd b ρ S).bind fun y S => (op2 o m x y S).bind fun w S =>
      if o.cmp.isSome then (match w with | .d (.bool k) => .ok k S | _ => .bad) else (match tru S w with | some k => .ok k S | none => .bad) := rfl
theorem evT_or (a b : ME) : evT F gd (.or a b) ρ S = (evT F gd a ρ S).bind fun k S => if k then .ok true S else evT F gd b ρ S := rfl
theorem evT_and (a b : ME) : evT F gd (.and a b) ρ S = (evT F gd a ρ S).bind fun k S => if k then evT F gd b ρ S else .ok false S := rfl
theorem evT_not (a : ME) : evT F gd (.not a) ρ S = (evT F gd a ρ S).bind fun k S => .ok (!k) S := rfl
theorem evT_bi (b : Bi) (m : Bool) (l : MEs) : evT F gd (.bi b m l) ρ S = (evEs F gd l ρ S).bind fun ws S => (biW gd b m ws S).bind fun w S => match tru S w with | some k => .ok k S | none => .bad := rfl
theorem exS_asg (g : MG) (e : ME) : exS F gd wf (.asg g e) ρ S = (evE F gd e ρ S).toS ρ fun w S => asgG F gd g w ρ S .next := rfl
theorem exS_ret (e : ME) : exS F gd wf (.ret e) ρ S = (evE F gd e ρ S).toS ρ fun w S => .ret w S := rfl
theorem exS_expr (e : ME) : exS F gd wf (.expr e) ρ S = (evE F gd e ρ S).toS ρ fun _ S => .next ρ S := rfl
theorem exS_ife (c : ME) (a b : MSs) : exS F gd wf (.ife c a b) ρ S = (evT F gd c ρ S).toS ρ fun k S => if k then exSs F gd wf a ρ S else exSs F gd wf b ρ S := rfl
theorem exS_fors (tg : MT) (k : IK) (src : MEs) (b : MSs) : exS F gd wf (.fors tg k src b) ρ S = inLkS k src ρ S fun S => if shI k src then (evEs F gd src ρ S).toS ρ fun ws S => match srcOf k ws S with
    | some (sr, n) => forGo sr tg (fun ρ S => exSs F gd wf b ρ S) (n + 1) 0 ρ S
    | none => .bad
    else .bad := rfl
theorem exS_try (b : MSs) (c : Nat) (sl : Option Nat) (q : MSs) : exS F gd wf (.tryAs b c sl q) ρ S = (match exSs F gd wf b ρ S with
    | .exc c' w ρ' S' => (match gd.sub c' (.own c) with
      | some true => outTry sl (exSs F gd wf q (slotSet sl (some (.exn c' w)) ρ') S')
      | some false => .exc c' w ρ' S'
      | none => .bad)
    | r => r) := rfl
theorem exS_rse (c : Nat) (a : ME) : exS F gd wf (.rse c a) ρ S = if gd.hv c && gd.ex c then (evE F gd a ρ S).toS ρ fun w S => .exc c w ρ S else .bad := rfl
theorem evT_call (f : Nat) (l : MEs) : evT F gd (.call f l) ρ S = (evEs F gd l ρ S).bind fun ws S => (F f ws S).bind fun w S => match tru S w with | some k => .ok k S | none => .bad := rfl
theorem evE_comp (m : Bool) (e : ME) (tg : MT) (k : IK) (src : MEs) (cd : MO) (own : List (Str × Nat)) : evE F gd (.comp m e tg k src cd own) ρ S = inLk k src ρ S fun S => if shI k src then (evEs F gd src ρ S).bind fun ws S => match srcOf k ws S with
    | some (sr, n) => if n < lim && tgIn tg (own.map (·.2)) then
        (compGo sr (fun it S => match bindT S tg it (wipeW ρ (own.map (·.2))) with
          | some ρ' => (evIf F gd cd ρ' S).bind fun b S => if b then (evE F gd e ρ' S).bind fun w S => .ok (some w) S else .ok none S
          | none => .bad) (n + 1) 0 S).bind fun l S => mkL m l S
      else .bad
    | none => .bad
    else .bad := rfl
theorem exSs_nil : exSs F gd wf .nil ρ S = .next ρ S := rfl
theorem exSs_cons (s : MS) (r : MSs) : exSs F gd wf (.cons s r) ρ S = match exS F gd wf s ρ S with | .next ρ S => exSs F gd wf r ρ S | x => x := rfl
theorem asgG_nm (i : Nat) (w : W) (k : Rho → Sto → RS) : asgG F gd (.nm i) w ρ S k = k (ρ.set i (some w)) S := rfl
theorem asgG_sub (a i : ME) (w : W) (k : Rho → Sto → RS) : asgG F gd (.sub a i) w ρ S k = (evE F gd a ρ S).toS ρ fun x S => (evE F gd i ρ S).toS ρ fun y S => (setW x y w S).toS ρ fun _ S => k ρ S := rfl
theorem Rbind_ok {α β : Type} (a : α) (f : α → Sto → R β) : (R.ok a S).bind f = f a S := rfl
theorem RtoS_ok {α : Type} (a : α) (f : α → Sto → RS) : (R.ok a S).toS ρ f = f a S := rfl
end
end MP
namespace MP
open PySem
section
variable {F : Nat → List W → Sto → R W} {gd : Gd} {wf : Nat} {ρ ρ' : Rho} {S S1 S2 S3 : Sto} {a b c e : ME} {l r : MEs} {x y w : W} {ws : List W} {rr : R W} {o : Op2} {m : Bool} {k : Bool}
theorem eop (ha : evE F gd a ρ S = .ok x S1) (hb : evE F gd b ρ S1 = .ok y S2) (ho : op2 o m x y S2 = rr) : evE F gd (.op o m a b) ρ S = rr := by rw [evE_op, ha, Rbind_ok, hb, Rbind_ok, ho]
theorem econs (ha : evE F gd a ρ S = .ok x S1) (hb : evEs F gd r ρ S1 = .ok ws S2) : evEs F gd (.cons a r) ρ S = .ok (x :: ws) S2 := by rw [evEs_cons, ha, Rbind_ok, hb, Rbind_ok]
theorem ebi {bi : Bi} (ha : evEs F gd l ρ S = .ok ws S1) (h : biW gd bi m ws S1 = rr) : evE F gd (.bi bi m l) ρ S = rr := by rw [evE_bi, ha, Rbind_ok, h]
theorem ecall {f : Nat} (ha : evEs F gd l ρ S = .ok ws S1) (h : F f ws S1 = rr) : evE F gd (.call f l) ρ S = rr := by rw [evE_call, ha, Rbind_ok, h]
theorem eix (ha : evE F gd a ρ S = .ok x S1) (hb : evE F gd b ρ S1 = .ok y S2) (ho : ixW x y S2 = rr) : evE F gd (.ix a b) ρ S = rr := by rw [evE_ix, ha, Rbind_ok, hb, Rbind_ok, ho]
theorem elst (ha : evEs F gd l ρ S = .ok ws S1) (hz : ws.length ≤ lim) (h : mkL m ws S1 = rr) : evE F gd (.lst m l) ρ S = rr := by rw [evE_lst, ha, Rbind_ok, if_pos hz, h]
theorem etup (ha : evEs F gd l ρ S = .ok ws S1) (hz : ws.length ≤ lim) (h : mkT ws S1 = rr) : evE F gd (.tup l) ρ S = rr := by rw [evE_tup, ha, Rbind_ok, if_pos hz, h]
theorem eifT (hc : evT F gd c ρ S = .ok true S1) (h : evE F gd a ρ S1 = rr) : evE F gd (.ife c a b) ρ S = rr := by rw [evE_ife, hc, Rbind_ok, if_pos rfl, h]
theorem eifF (hc : evT F gd c ρ S = .ok false S1) (h : evE F gd b ρ S1 = rr) : evE F gd (.ife c a b) ρ S = rr := by rw [evE_ife, hc, Rbind_ok, if_neg Bool.false_ne_true, h]
theorem tcmp (ha : evE F gd a ρ S = .ok x S1) (hb : evE F gd b ρ S1 = .ok y S2) (ho : op2 o m x y S2 = .ok (.d (.bool k)) S3) (hc : o.cmp.isSome = true) : evT F gd (.op o m a b) ρ S = .ok k S3 := by
  rw [evT_op, ha, Rbind_ok, hb, Rbind_ok, ho, Rbind_ok, if_pos hc]
theorem xasg {i : Nat} (h : evE F gd e ρ S = .ok w S1) : exS F gd wf (.asg (.nm i) e) ρ S = .next (ρ.set i (some w)) S1 := by rw [exS_asg, h, RtoS_ok, asgG_nm]
theorem xsub (h : evE F gd e ρ S = .ok w S1) (ha : evE F gd a ρ S1 = .ok x S2) (hb : evE F gd b ρ S2 = .ok y S3) {S4 : Sto} (hs : setW x y w S3 = .ok () S4) : exS F gd wf (.asg (.sub a b) e) ρ S = .next ρ S4 := by
  rw [exS_asg, h, RtoS_ok, asgG_sub, ha, RtoS_ok, hb, RtoS_ok, hs, RtoS_ok]
theorem xret (h : evE F gd e ρ S = .ok w S1) : exS F gd wf (.ret e) ρ S = .ret w S1 := by rw [exS_ret, h, RtoS_ok]
theorem xifT {p q : MSs} {rs : RS} (hc : evT F gd c ρ S = .ok true S1) (h : exSs F gd wf p ρ S1 = rs) : exS F gd wf (.ife c p q) ρ S = rs := by rw [exS_ife, hc, RtoS_ok, if_pos rfl, h]
theorem xifF {p q : MSs} {rs : RS} (hc : evT F gd c ρ S = .ok false S1) (h : exSs F gd wf q ρ S1 = rs) : exS F gd wf (.ife c p q) ρ S = rs := by rw [exS_ife, hc, RtoS_ok, if_neg Bool.false_ne_true, h]
theorem snext {s : MS} {t : MSs} {rs : RS} (h : exS F gd wf s ρ S = .next ρ' S1) (h2 : exSs F gd wf t ρ' S1 = rs) : exSs F gd wf (.cons s t) ρ S = rs := by rw [exSs_cons, h]; exact h2
theorem sret {s : MS} {t : MSs} (h : exS F gd wf s ρ S = .ret w S1) : exSs F gd wf (.cons s t) ρ S = .ret w S1 := by rw [exSs_cons, h]
end
end MP
namespace MP
open PySem
section
variable {F : Nat → List W → Sto → R W} {gd : Gd} {wf : Nat} {ρ ρ1 ρ2 : Rho} {S S1 S2 : Sto} {sr : Src} {tg : MT} {f : Rho → Sto → RS} {n i : Nat} {it : IW} {rs : RS}
theorem fgo (h1 : itemAt S i sr = some (some it)) (h2 : bindT S tg it ρ = some ρ1) (h3 : f ρ1 S = .next ρ2 S2) (h4 : forGo sr tg f n (i + 1) ρ2 S2 = rs) : forGo sr tg f (n + 1) i ρ S = rs := by
  show (match itemAt S i sr with | some none => RS.next ρ S | some (some it) => (match bindT S tg it ρ with | some ρ1 => (match f ρ1 S with | .next ρ2 S2 => forGo sr tg f n (i + 1) ρ2 S2 | .cont ρ2 S2 => forGo sr tg f n (i + 1) ρ2 S2 | .brk ρ2 S2 => .next ρ2 S2 | x => x) | none => .bad) | none => .bad) = rs
  rw [h1]
  show (match bindT S tg it ρ with | some ρ1 => (match f ρ1 S with | .next ρ2 S2 => forGo sr tg f n (i + 1) ρ2 S2 | .cont ρ2 S2 => forGo sr tg f n (i + 1) ρ2 S2 | .brk ρ2 S2 => .next ρ2 S2 | x => x) | none => .bad) = rs
  rw [h2]
  show (match f ρ1 S with | .next ρ2 S2 => forGo sr tg f n (i + 1) ρ2 S2 | .cont ρ2 S2 => forGo sr tg f n (i + 1) ρ2 S2 | .brk ρ2 S2 => .next ρ2 S2 | x => x) = rs
  rw [h3]
  exact h4
theorem fend (h1 : itemAt S i sr = some none) : forGo sr tg f (n + 1) i ρ S = .next ρ S := by
  show (match itemAt S i sr with | some none => RS.next ρ S | some (some it) => (match bindT S tg it ρ with | some ρ1 => (match f ρ1 S with | .next ρ2 S2 => forGo sr tg f n (i + 1) ρ2 S2 | .cont ρ2 S2 => forGo sr tg f n (i + 1) ρ2 S2 | .brk ρ2 S2 => .next ρ2 S2 | x => x) | none => .bad) | none => .bad) = _
  rw [h1]
theorem xfor {k : IK} {src : MEs} {b : MSs} {ws : List W} (hs : shI k src = true) (h1 : evEs F gd src ρ S = .ok ws S1) (h2 : srcOf k ws S1 = some (sr, n)) (h3 : forGo sr tg (fun ρ S => exSs F gd wf b ρ S) (n + 1) 0 ρ S1 = rs) (hk : k.lock = false := by rfl) : exS F gd wf (.fors tg k src b) ρ S = rs := by
  rw [exS_fors]
  unfold inLkS
  rw [if_neg (by rw [hk]; exact Bool.false_ne_true)]
  simp only [hs, if_true, h1, RtoS_ok, h2]
  exact h3
end
end MP
namespace MP
open PySem
section
variable {F : Nat → List W → Sto → R W} {gd : Gd} {wf : Nat} {ρ ρ' : Rho} {S S1 S2 S3 : Sto} {a b c e : ME} {l r : MEs} {x y w : W} {ws : List W} {rr : R W} {k : Bool} {f n c' : Nat} {s : MS} {t p q : MSs} {rs : RS}
theorem torT (ha : evT F gd a ρ S = .ok true S1) : evT F gd (.or a b) ρ S = .ok true S1 := by rw [evT_or, ha]; rfl
theorem torF (ha : evT F gd a ρ S = .ok false S1) {z : R Bool} (hb : evT F gd b ρ S1 = z) : evT F gd (.or a b) ρ S = z := by rw [evT_or, ha]; exact hb
theorem tandT (ha : evT F gd a ρ S = .ok true S1) {z : R Bool} (hb : evT F gd b ρ S1 = z) : evT F gd (.and a b) ρ S = z := by rw [evT_and, ha]; exact hb
theorem tandF (ha : evT F gd a ρ S = .ok false S1) : evT F gd (.and a b) ρ S = .ok false S1 := by rw [evT_and, ha]; rfl
theorem tnot (ha : evT F gd a ρ S = .ok k S1) : evT F gd (.not a) ρ S = .ok (!k) S1 := by rw [evT_not, ha]; rfl
theorem tcall (ha : evEs F gd l ρ S = .ok ws S1) (h : F f ws S1 = .ok w S2) (hk : tru S2 w = some k) : evT F gd (.call f l) ρ S = .ok k S2 := by rw [evT_call, ha, Rbind_ok, h, Rbind_ok, hk]
theorem xexpr (h : evE F gd e ρ S = .ok w S1) : exS F gd wf (.expr e) ρ S = .next ρ S1 := by rw [exS_expr, h]; rfl
theorem xexprX {v : W} (h : evE F gd e ρ S = .exc n v S1) : exS F gd wf (.expr e) ρ S = .exc n v ρ S1 := by rw [exS_expr, h]; rfl
theorem sexc {v : W} (h : exS F gd wf s ρ S = .exc n v ρ' S1) : exSs F gd wf (.cons s t) ρ S = .exc n v ρ' S1 := by rw [exSs_cons, h]
theorem snil : exSs F gd wf .nil ρ S = .next ρ S := rfl
theorem xtry {v : W} {sl : Option Nat} (h : exSs F gd wf p ρ S = .exc c' v ρ' S1) (hs : gd.sub c' (.own n) = some true) (hq : outTry sl (exSs F gd wf q (slotSet sl (some (.exn c' v)) ρ') S1) = rs) : exS F gd wf (.tryAs p n sl q) ρ S = rs := by rw [exS_try, h]; simp only [hs]; exact hq
theorem xtryN {sl : Option Nat} (h : exSs F gd wf p ρ S = .next ρ' S1) : exS F gd wf (.tryAs p n sl q) ρ S = .next ρ' S1 := by rw [exS_try, h]
theorem cgo {sr : Src} {g : IW → Sto → R (Option W)} {i : Nat} {it : IW} {o : Option W} {l : List W} (h1 : itemAt S i sr = some (some it)) (h2 : g it S = .ok o S1) (h3 : compGo sr g n (i + 1) S1 = .ok l S2) : compGo sr g (n + 1) i S = .ok (consO o l) S2 := by
  unfold compGo
  rw [h1]
  simp only [h2, h3]
theorem cend {sr : Src} {g : IW → Sto → R (Option W)} {i : Nat} (h1 : itemAt S i sr = some none) : compGo sr g (n + 1) i S = .ok [] S := by
  unfold compGo
  rw [h1]
theorem ecomp {m : Bool} {tg : MT} {q : IK} {src : MEs} {cd : MO} {own : List (Str × Nat)} {sr : Src} {l : List W} (hk : q.lock = false) (hs : shI q src = true) (h1 : evEs F gd src ρ S = .ok ws S1) (h2 : srcOf q ws S1 = some (sr, n)) (h3 : (decide (n < lim) && tgIn tg (own.map (·.2))) = true)
    (h4 : compGo sr (fun it S => match bindT S tg it (wipeW ρ (own.map (·.2))) with
          | some ρ' => (evIf F gd cd ρ' S).bind fun b S => if b then (evE F gd e ρ' S).bind fun w S => .ok (some w) S else .ok none S
          | none => .bad) (n + 1) 0 S1 = .ok l S2) (h5 : mkL m l S2 = rr) : evE F gd (.comp m e tg q src cd own) ρ S = rr := by
  rw [evE_comp]
  unfold inLk
  rw [if_neg (by rw [hk]; exact Bool.false_ne_true)]
  dsimp only
  rw [if_pos hs, h1, Rbind_ok, h2]
  dsimp only
  rw [if_pos h3]
  exact (congrArg (fun r : R (List W) => r.bind fun l S => mkL m l S) h4).trans h5
/-- an item of a comprehension without a condition -/
theorem citem {tg : MT} {it : IW} {own : List Nat} (h1 : bindT S tg it (wipeW ρ own) = some ρ') (h2 : evE F gd e ρ' S = .ok w S1) : (match bindT S tg it (wipeW ρ own) with
          | some ρ' => (evIf F gd .none ρ' S).bind fun b S => if b then (evE F gd e ρ' S).bind fun w S => .ok (some w) S else .ok none S
          | none => .bad) = (.ok (some w) S1 : R (Option W)) := by
  rw [h1]
  show (if true = true then (evE F gd e ρ' S).bind fun w S => .ok (some w) S else .ok none S) = _
  rw [if_pos rfl, h2]
  rfl
end
end MP
namespace Law
open PySem MP
abbrev G3 (R : Sto) (a b c : Int) : Sto := .lst [.d (.int a), .d (.int b), .d (.int c)] :: R
abbrev Cl (R : Sto) : Prop := R.all (closedO (R.length + 1)) = true
def hmix (s x : Int) : Int := (s * 1140671 + 27644437 * x * x + 131 * x + 19).fmod 2147483629
def hmix2 (s x : Int) : Int := (hmix s x * hmix s x + 62089 * x + 32416187).fmod 2147483587
def hashv (s x : Int) : Int := (hmix2 s x * 48271).fmod 2147483647
theorem leave_int {R : Sto} (hR : Cl R) {x : PyData} {a b c : Int} : leaveW false (R.length + 1) (.d x) (G3 R a b c) = .ok (.d x) (G3 R a b c) := by
  unfold leaveW
  have ht : (G3 R a b c).take (R.length + 1) = G3 R a b c := List.take_of_length_le (by simp)
  rw [if_neg Bool.false_ne_true, ht]
  have hc : (G3 R a b c).all (closedO (R.length + 1)) = true := by
    rw [List.all_cons, hR]
    rfl
  rw [if_pos hc]
  rfl
theorem hash_ok {R : Sto} (hR : Cl R) {k : Nat} {s x a b c : Int} (h1 : 0 ≤ s) (h2 : s < 2147483647) (h3 : 0 ≤ x) (h4 : x < 2000) : runF fs gd 100 (k + 1) 2 [.d (.int s), .d (.int x)] (G3 R a b c) = .ok (.d (.int (hashv s x))) (G3 R a b c) := by
  have e1 : Small s := ⟨by omega, by omega⟩
  have e2 : Small x := ⟨by omega, by omega⟩
  have e3 : Small (27644437 * x) := ⟨by omega, by omega⟩
  have k1 : Small 1140671 := ⟨by omega, by omega⟩
  have k2 : Small 27644437 := ⟨by omega, by omega⟩
  have k3 : Small 131 := ⟨by omega, by omega⟩
  have k4 : Small 62089 := ⟨by omega, by omega⟩
  have k5 : Small 48271 := ⟨by omega, by omega⟩
  have m1 : 0 ≤ hmix s x ∧ hmix s x < 2147483629 := by
    unfold hmix
    rw [Int.fmod_eq_emod_of_nonneg _ (by decide)]
    omega
  have e4 : Small (hmix s x) := ⟨by omega, by omega⟩
  have m2 : 0 ≤ hmix2 s x ∧ hmix2 s x < 2147483587 := by
    unfold hmix2
    rw [Int.fmod_eq_emod_of_nonneg _ (by decide)]
    omega
  have e5 : Small (hmix2 s x) := ⟨by omega, by omega⟩
  rw [run_eq (d := f2) rfl rfl]
  have body : exSs (runF fs gd 100 k) gd 100 b2 [some (.d (.int s)), some (.d (.int x)), none] (G3 R a b c) = .ret (.d (.int (hashv s x))) (G3 R a b c) := by
    refine snext (xasg (eop (ebi (econs (eop (eop (eop (eop rfl rfl (ev_mul e1 k1)) (eop (eop rfl rfl (ev_mul k2 e2)) rfl (ev_mul e3 e2)) ev_add) (eop rfl rfl (ev_mul k3 e2)) ev_add) rfl ev_add) rfl) rfl) rfl (ev_mod (by decide)))) ?_
    refine snext (xasg (w := .d (.int (hmix2 s x))) (eop (ebi (econs (eop (eop (eop rfl rfl (ev_mul e4 e4)) (eop rfl rfl (ev_mul k4 e2)) ev_add) rfl ev_add) rfl) rfl) rfl (ev_mod (by decide)))) ?_
    exact sret (xret (eop (ebi (econs (eop rfl rfl (ev_mul e5 k5)) rfl) rfl) rfl (ev_mod (by decide))))
  show fin false (R.length + 1) (exSs (runF fs gd 100 k) gd 100 b2 [some (.d (.int s)), some (.d (.int x)), none] (G3 R a b c)) = _
  rw [body]
  exact leave_int hR
end Law
namespace Law
open PySem MP
theorem hash_lt (s x : Int) : 0 ≤ hashv s x ∧ hashv s x < 2147483647 := by
  unfold hashv
  rw [Int.fmod_eq_emod_of_nonneg _ (by decide)]
  omega
abbrev tbody : MSs := ss [(.asg (.sub (v 0) (i 2)) (.op .add false (.ix (v 0) (i 2)) (i 1))), (.asg (.nm 2) (.op .add false (.op .mul false (v 2) (i 2147483587)) (.call 2 (es [(.ix (v 0) (i 1)), (.ix (v 0) (i 2))]))))]
theorem turn1 {R : Sto} (hR : Cl R) {k : Nat} {a b c dr : Int} {B : W} {t : Option W} (h1 : 0 ≤ b) (h2 : b < 2147483647) (h3 : 0 ≤ c) (h4 : c < 1900) (hd : Small dr) :
    exSs (runF fs gd 100 (k + 1)) gd 100 tbody [some (.ref 0), some B, some (.d (.int dr)), t] (G3 R a b c) = .next [some (.ref 0), some B, some (.d (.int (dr * 2147483587 + hashv b (c + 1)))), t] (G3 R a b (c + 1)) := by
  have k1 : Small 2147483587 := ⟨by omega, by omega⟩
  refine snext (xsub (eop (eix rfl rfl rfl) rfl ev_add) rfl rfl rfl) ?_
  refine snext (xasg (eop (eop rfl rfl (ev_mul hd k1)) (ecall (econs (eix rfl rfl rfl) (econs (eix rfl rfl rfl) rfl)) (hash_ok hR h1 h2 (by omega) (by omega))) ev_add)) ?_
  rfl
theorem rnd_ok {R : Sto} (hR : Cl R) {k : Nat} {a b c B : Int} (ha : 0 ≤ a) (hB : 0 < B) (hl : B.natAbs.log2 < 9000) (h1 : 0 ≤ b) (h2 : b < 2147483647) (h3 : 0 ≤ c) (h4 : c < 1800) (hN : 1 + ((Builtin.Int.intBits B : Nat) : Int) / 30 = 1 ∨ 1 + ((Builtin.Int.intBits B : Nat) : Int) / 30 = 3) :
    ∃ r a' c', runF fs gd 100 (k + 2) 3 [.ref 0, .d (.int B)] (G3 R a b c) = .ok (.d (.int r)) (G3 R a' b c') ∧ 0 ≤ r ∧ r < B ∧ 0 ≤ a' ∧ 0 ≤ c' ∧ c' ≤ c + 3 := by
  have md : ∀ x : Int, 0 ≤ x.fmod B ∧ x.fmod B < B := fun x => by
    rw [Int.fmod_eq_emod_of_nonneg _ (by omega)]
    exact ⟨Int.emod_nonneg _ (by omega), Int.emod_lt_of_pos _ hB⟩
  have top : ∀ {r a' c' : Int}, exSs (runF fs gd 100 (k + 1)) gd 100 b3 [some (.ref 0), some (.d (.int B)), none, none] (G3 R a b c) = .ret (.d (.int r)) (G3 R a' b c') → runF fs gd 100 (k + 2) 3 [.ref 0, .d (.int B)] (G3 R a b c) = .ok (.d (.int r)) (G3 R a' b c') := fun {r a' c'} h => by
    rw [run_eq (d := f3) rfl rfl]
    show fin false (R.length + 1) (exSs (runF fs gd 100 (k + 1)) gd 100 b3 [some (.ref 0), some (.d (.int B)), none, none] (G3 R a b c)) = _
    rw [h]
    exact leave_int hR
  by_cases hp : 0 < a
  · refine ⟨a.fmod B, a / B, c, top ?_, (md a).1, (md a).2, Int.ediv_nonneg ha (by omega), h3, by omega⟩
    refine sret (xifT (tcmp (k := true) (eix rfl rfl rfl) rfl (ev_gtT hp) rfl) ?_)
    refine snext (xasg (eop (ebi (econs (eix rfl rfl rfl) rfl) rfl) rfl (ev_mod (by omega)))) ?_
    refine snext (xsub (eop (eix rfl rfl rfl) rfl (ev_fdiv hB hl)) rfl rfl rfl) ?_
    exact sret (xret rfl)
  · have key : ∀ {n : Nat} {dr c' : Int} {t : Option W}, 1 + ((Builtin.Int.intBits B : Nat) : Int) / 30 = (n : Int) → n ≤ 3 → forGo (.rng 0 n) (.nm 3) (fun ρ S => exSs (runF fs gd 100 (k + 1)) gd 100 tbody ρ S) (n + 1) 0 [some (.ref 0), some (.d (.int B)), some (.d (.int 0)), none] (G3 R a b c) = .next [some (.ref 0), some (.d (.int B)), some (.d (.int dr)), t] (G3 R a b c') →
        exSs (runF fs gd 100 (k + 1)) gd 100 b3 [some (.ref 0), some (.d (.int B)), none, none] (G3 R a b c) = .ret (.d (.int (dr.fmod B))) (G3 R a b c') := fun {n dr c' t} hn hn3 hf => by
      refine snext (xifF (tcmp (k := false) (eix rfl rfl rfl) rfl (ev_gtF hp) rfl) rfl) ?_
      refine snext (xasg rfl) ?_
      refine snext (xfor (ws := [.d (.int (n : Int))]) (sr := .rng 0 n) (n := n) rfl (econs (eop rfl (eop rfl rfl (ev_fdiv (by decide) (by decide))) (ev_addE hn)) rfl) ?_ hf) ?_
      · show (if inRng (n : Int) = true then some (Src.rng 0 (n : Int).toNat, (n : Int).toNat) else none) = _
        have : inRng (n : Int) = true := by
          unfold inRng
          simp only [Bool.and_eq_true, decide_eq_true_eq]
          omega
        rw [if_pos this, Int.toNat_natCast]
      · exact sret (xret (eop (ebi (econs rfl rfl) rfl) rfl (ev_mod (by omega))))
    have s0 : Small 0 := ⟨by omega, by omega⟩
    obtain ⟨u1, u2⟩ := hash_lt b (c + 1)
    obtain ⟨v1, v2⟩ := hash_lt b (c + 1 + 1)
    have s1 : Small (0 * 2147483587 + hashv b (c + 1)) := ⟨by omega, by omega⟩
    have s2 : Small ((0 * 2147483587 + hashv b (c + 1)) * 2147483587 + hashv b (c + 1 + 1)) := ⟨by omega, by omega⟩
    rcases hN with hN | hN
    · refine ⟨_, a, c + 1, top (key (n := 1) (dr := 0 * 2147483587 + hashv b (c + 1)) hN (by omega) (fgo rfl rfl (turn1 hR h1 h2 h3 (by omega) s0) (fend rfl))), (md _).1, (md _).2, ha, by omega, by omega⟩
    · refine ⟨_, a, c + 1 + 1 + 1, top (key (n := 3) (dr := ((0 * 2147483587 + hashv b (c + 1)) * 2147483587 + hashv b (c + 1 + 1)) * 2147483587 + hashv b (c + 1 + 1 + 1)) hN (by omega) (fgo rfl rfl (turn1 hR h1 h2 h3 (by omega) s0) (fgo rfl rfl (turn1 hR h1 h2 (by omega) (by omega) s1) (fgo rfl rfl (turn1 hR h1 h2 (by omega) (by omega) s2) (fend rfl))))), (md _).1, (md _).2, ha, by omega, by omega⟩
end Law
namespace Law
open PySem MP
theorem ix0 {d : PyData} {ds : List PyData} {S : Sto} : ixW (.d (.list (d :: ds))) (.d (.int 0)) S = .ok (.d d) S := by
  simp [ixW, isDict, seqL, L2.atI, L2.ixN]
theorem cell_ok {k : Nat} (ns : List Int) : ∃ x, runF fs gd 100 (k + 1) 0 [.d (.list (ns.map .int)), .d (.int 0)] [] = .ok (.d (.int x)) [] := by
  have top : ∀ {x : Int}, exSs (runF fs gd 100 k) gd 100 b0 [some (.d (.list (ns.map .int))), some (.d (.int 0))] [] = .ret (.d (.int x)) [] → runF fs gd 100 (k + 1) 0 [.d (.list (ns.map .int)), .d (.int 0)] [] = .ok (.d (.int x)) [] := fun {x} h => by
    rw [run_eq (d := f0) rfl rfl]
    show fin false 0 (exSs (runF fs gd 100 k) gd 100 b0 [some (.d (.list (ns.map .int))), some (.d (.int 0))] []) = _
    rw [h]
    rfl
  cases ns with
  | nil => exact ⟨0, top rfl⟩
  | cons x r =>
    refine ⟨x, top ?_⟩
    exact sret (xifT (tcmp (k := true) rfl (ebi (econs rfl rfl) rfl) (ev_ltT (by show (0 : Int) < ((List.length (List.map PyData.int (x :: r)) : Nat) : Int); rw [List.length_map, List.length_cons]; omega)) rfl) (sret (xret (eix rfl rfl ix0))))
theorem ev_pow {m : Bool} {i j : Int} {S : Sto} (h : 0 ≤ j ∧ (Builtin.Int.intBits i : Int) * j ≤ 2 ^ 27) : op2 .pow m (.d (.int i)) (.d (.int j)) S = .ok (.d (.int (i ^ j.toNat))) S := by
  show (if _ then _ else _) = _
  exact if_pos h
theorem gen_ok {k : Nat} (ns : List Int) : ∃ a b, 0 ≤ a ∧ 0 ≤ b ∧ b < 2147483647 ∧ runF fs gd 100 (k + 2) 1 [.d (.list (ns.map .int)), .d (.int 0)] [] = .ok (.ref 0) (G3 [] a b 0) := by
  obtain ⟨x, hx⟩ := cell_ok (k := k) ns
  have k0 : Small 0 := ⟨by omega, by omega⟩
  have k1 : Small 1000 := ⟨by omega, by omega⟩
  have nz : ((10 : Int) ^ (60 : Int).toNat) ^ (10 : Int).toNat ≠ 0 := by decide +kernel
  have md : ∀ (x m : Int), 0 ≤ m → m ≠ 0 → 0 ≤ x.fmod m := fun x m h h' => by
    rw [Int.fmod_eq_emod_of_nonneg _ h]
    exact Int.emod_nonneg _ h'
  have mb : 0 ≤ x.fmod 2147483647 ∧ x.fmod 2147483647 < 2147483647 := by
    rw [Int.fmod_eq_emod_of_nonneg _ (by decide)]
    omega
  refine ⟨(if 0 > x - 10 ^ (18 : Int).toNat then 0 else x - 10 ^ (18 : Int).toNat).fmod (((10 : Int) ^ (60 : Int).toNat) ^ (10 : Int).toNat), x.fmod 2147483647, md _ _ (by decide +kernel) nz, mb.1, mb.2, ?_⟩
  rw [run_eq (d := f1) rfl rfl]
  have body : exSs (runF fs gd 100 (k + 1)) gd 100 b1 [some (.d (.list (ns.map .int))), some (.d (.int 0)), none] [] = .ret (.ref 0) (G3 [] ((if 0 > x - 10 ^ (18 : Int).toNat then 0 else x - 10 ^ (18 : Int).toNat).fmod (((10 : Int) ^ (60 : Int).toNat) ^ (10 : Int).toNat)) (x.fmod 2147483647) 0) := by
    refine snext (xasg (ecall (econs rfl (econs rfl rfl)) hx)) ?_
    refine sret (xret (elst (econs (eop (ebi (econs (ebi (econs (eop rfl (eop rfl rfl (ev_pow (by decide +kernel))) ev_sub) (econs rfl rfl)) rfl) rfl) rfl) (eop (eop rfl rfl (ev_pow (by decide +kernel))) rfl (ev_pow (by decide +kernel))) (ev_mod nz))
      (econs (eop (ebi (econs rfl rfl) rfl) rfl (ev_mod (by decide))) (econs (eop rfl rfl (ev_mul k1 k0)) rfl))) (show 3 ≤ lim by decide) rfl))
  show fin true 0 (exSs (runF fs gd 100 (k + 1)) gd 100 b1 [some (.d (.list (ns.map .int))), some (.d (.int 0)), none] []) = _
  rw [body]
  rfl
end Law
namespace Law
open PySem MP
abbrev G0 (a b c : Int) : Sto := G3 [] a b c
def dq : Nat → PyData | 0 => .tuple [.str "true"] | n + 1 => .tuple [.str "some", .str (("n" : Str) ++ (toString (n : Int) : Str)), dq n]
def da : PyData := .list [.str "a"]
def db : PyData := .list [.str "b"]
def lone : PyData := .tuple [.str "store", da, db, .list [.int 7], .list []]
def bare : PyData := .tuple [.str "store", da, db, .list [], .list []]
theorem isq1 (a b c : Int) : runF fs gd 100 16 23 [.d da, .d db, .d (dq 1)] (G0 a b c) = .ok (.d (.bool true)) (G0 a b c) := by kernel_rfl
theorem fre1 (a b c : Int) : runF fs gd 100 16 18 [.d (dq 1)] (G0 a b c) = .ok (.d (.list [])) (G0 a b c) := by kernel_rfl
theorem dep1 (a b c : Int) : runF fs gd 100 17 27 [.d (dq 1)] (G0 a b c) = .ok (.d (.int 1)) (G0 a b c) := by kernel_rfl
theorem dee1 (a b c : Int) : runF fs gd 100 19 36 [.d (.int 1)] (G0 a b c) = .ok (.d (dq 1)) (G0 a b c) := by kernel_rfl
theorem isq2 (a b c : Int) : runF fs gd 100 16 23 [.d da, .d db, .d (dq 2)] (G0 a b c) = .ok (.d (.bool true)) (G0 a b c) := by kernel_rfl
theorem fre2 (a b c : Int) : runF fs gd 100 16 18 [.d (dq 2)] (G0 a b c) = .ok (.d (.list [])) (G0 a b c) := by kernel_rfl
theorem dep2 (a b c : Int) : runF fs gd 100 17 27 [.d (dq 2)] (G0 a b c) = .ok (.d (.int 2)) (G0 a b c) := by kernel_rfl
theorem dee2 (a b c : Int) : runF fs gd 100 19 36 [.d (.int 2)] (G0 a b c) = .ok (.d (dq 2)) (G0 a b c) := by kernel_rfl
theorem isq3 (a b c : Int) : runF fs gd 100 16 23 [.d da, .d db, .d (dq 3)] (G0 a b c) = .ok (.d (.bool true)) (G0 a b c) := by kernel_rfl
theorem fre3 (a b c : Int) : runF fs gd 100 16 18 [.d (dq 3)] (G0 a b c) = .ok (.d (.list [])) (G0 a b c) := by kernel_rfl
theorem dep3 (a b c : Int) : runF fs gd 100 17 27 [.d (dq 3)] (G0 a b c) = .ok (.d (.int 3)) (G0 a b c) := by kernel_rfl
theorem dee3 (a b c : Int) : runF fs gd 100 19 36 [.d (.int 3)] (G0 a b c) = .ok (.d (dq 3)) (G0 a b c) := by kernel_rfl
theorem isq4 (a b c : Int) : runF fs gd 100 16 23 [.d da, .d db, .d (dq 4)] (G0 a b c) = .ok (.d (.bool true)) (G0 a b c) := by kernel_rfl
theorem fre4 (a b c : Int) : runF fs gd 100 16 18 [.d (dq 4)] (G0 a b c) = .ok (.d (.list [])) (G0 a b c) := by kernel_rfl
theorem dep4 (a b c : Int) : runF fs gd 100 17 27 [.d (dq 4)] (G0 a b c) = .ok (.d (.int 4)) (G0 a b c) := by kernel_rfl
theorem dee4 (a b c : Int) : runF fs gd 100 19 36 [.d (.int 4)] (G0 a b c) = .ok (.d (dq 4)) (G0 a b c) := by kernel_rfl
theorem isq5 (a b c : Int) : runF fs gd 100 16 23 [.d da, .d db, .d (dq 5)] (G0 a b c) = .ok (.d (.bool true)) (G0 a b c) := by kernel_rfl
theorem fre5 (a b c : Int) : runF fs gd 100 16 18 [.d (dq 5)] (G0 a b c) = .ok (.d (.list [])) (G0 a b c) := by kernel_rfl
theorem dep5 (a b c : Int) : runF fs gd 100 17 27 [.d (dq 5)] (G0 a b c) = .ok (.d (.int 5)) (G0 a b c) := by kernel_rfl
theorem dee5 (a b c : Int) : runF fs gd 100 19 36 [.d (.int 5)] (G0 a b c) = .ok (.d (dq 5)) (G0 a b c) := by kernel_rfl
theorem isq6 (a b c : Int) : runF fs gd 100 16 23 [.d da, .d db, .d (dq 6)] (G0 a b c) = .ok (.d (.bool true)) (G0 a b c) := by kernel_rfl
theorem fre6 (a b c : Int) : runF fs gd 100 16 18 [.d (dq 6)] (G0 a b c) = .ok (.d (.list [])) (G0 a b c) := by kernel_rfl
theorem dep6 (a b c : Int) : runF fs gd 100 17 27 [.d (dq 6)] (G0 a b c) = .ok (.d (.int 6)) (G0 a b c) := by kernel_rfl
theorem dee6 (a b c : Int) : runF fs gd 100 19 36 [.d (.int 6)] (G0 a b c) = .ok (.d (dq 6)) (G0 a b c) := by kernel_rfl
theorem isq7 (a b c : Int) : runF fs gd 100 16 23 [.d da, .d db, .d (dq 7)] (G0 a b c) = .ok (.d (.bool true)) (G0 a b c) := by kernel_rfl
theorem fre7 (a b c : Int) : runF fs gd 100 16 18 [.d (dq 7)] (G0 a b c) = .ok (.d (.list [])) (G0 a b c) := by kernel_rfl
theorem dep7 (a b c : Int) : runF fs gd 100 17 27 [.d (dq 7)] (G0 a b c) = .ok (.d (.int 7)) (G0 a b c) := by kernel_rfl
theorem dee7 (a b c : Int) : runF fs gd 100 19 36 [.d (.int 7)] (G0 a b c) = .ok (.d (dq 7)) (G0 a b c) := by kernel_rfl
theorem isq8 (a b c : Int) : runF fs gd 100 16 23 [.d da, .d db, .d (dq 8)] (G0 a b c) = .ok (.d (.bool true)) (G0 a b c) := by kernel_rfl
theorem fre8 (a b c : Int) : runF fs gd 100 16 18 [.d (dq 8)] (G0 a b c) = .ok (.d (.list [])) (G0 a b c) := by kernel_rfl
theorem dep8 (a b c : Int) : runF fs gd 100 17 27 [.d (dq 8)] (G0 a b c) = .ok (.d (.int 8)) (G0 a b c) := by kernel_rfl
theorem dee8 (a b c : Int) : runF fs gd 100 19 36 [.d (.int 8)] (G0 a b c) = .ok (.d (dq 8)) (G0 a b c) := by kernel_rfl
theorem isq9 (a b c : Int) : runF fs gd 100 16 23 [.d da, .d db, .d (dq 9)] (G0 a b c) = .ok (.d (.bool true)) (G0 a b c) := by kernel_rfl
theorem fre9 (a b c : Int) : runF fs gd 100 16 18 [.d (dq 9)] (G0 a b c) = .ok (.d (.list [])) (G0 a b c) := by kernel_rfl
theorem dep9 (a b c : Int) : runF fs gd 100 17 27 [.d (dq 9)] (G0 a b c) = .ok (.d (.int 9)) (G0 a b c) := by kernel_rfl
theorem dee9 (a b c : Int) : runF fs gd 100 19 36 [.d (.int 9)] (G0 a b c) = .ok (.d (dq 9)) (G0 a b c) := by kernel_rfl
theorem isq10 (a b c : Int) : runF fs gd 100 16 23 [.d da, .d db, .d (dq 10)] (G0 a b c) = .ok (.d (.bool true)) (G0 a b c) := by kernel_rfl
theorem fre10 (a b c : Int) : runF fs gd 100 16 18 [.d (dq 10)] (G0 a b c) = .ok (.d (.list [])) (G0 a b c) := by kernel_rfl
theorem dep10 (a b c : Int) : runF fs gd 100 17 27 [.d (dq 10)] (G0 a b c) = .ok (.d (.int 10)) (G0 a b c) := by kernel_rfl
theorem dee10 (a b c : Int) : runF fs gd 100 19 36 [.d (.int 10)] (G0 a b c) = .ok (.d (dq 10)) (G0 a b c) := by kernel_rfl
theorem isq11 (a b c : Int) : runF fs gd 100 16 23 [.d da, .d db, .d (dq 11)] (G0 a b c) = .ok (.d (.bool true)) (G0 a b c) := by kernel_rfl
theorem fre11 (a b c : Int) : runF fs gd 100 16 18 [.d (dq 11)] (G0 a b c) = .ok (.d (.list [])) (G0 a b c) := by kernel_rfl
theorem dep11 (a b c : Int) : runF fs gd 100 17 27 [.d (dq 11)] (G0 a b c) = .ok (.d (.int 11)) (G0 a b c) := by kernel_rfl
theorem dee11 (a b c : Int) : runF fs gd 100 19 36 [.d (.int 11)] (G0 a b c) = .ok (.d (dq 11)) (G0 a b c) := by kernel_rfl
theorem isq12 (a b c : Int) : runF fs gd 100 16 23 [.d da, .d db, .d (dq 12)] (G0 a b c) = .ok (.d (.bool true)) (G0 a b c) := by kernel_rfl
theorem fre12 (a b c : Int) : runF fs gd 100 16 18 [.d (dq 12)] (G0 a b c) = .ok (.d (.list [])) (G0 a b c) := by kernel_rfl
theorem dep12 (a b c : Int) : runF fs gd 100 17 27 [.d (dq 12)] (G0 a b c) = .ok (.d (.int 12)) (G0 a b c) := by kernel_rfl
theorem dee12 (a b c : Int) : runF fs gd 100 19 36 [.d (.int 12)] (G0 a b c) = .ok (.d (dq 12)) (G0 a b c) := by kernel_rfl
theorem isq13 (a b c : Int) : runF fs gd 100 16 23 [.d da, .d db, .d (dq 13)] (G0 a b c) = .ok (.d (.bool true)) (G0 a b c) := by kernel_rfl
theorem fre13 (a b c : Int) : runF fs gd 100 16 18 [.d (dq 13)] (G0 a b c) = .ok (.d (.list [])) (G0 a b c) := by kernel_rfl
theorem dep13 (a b c : Int) : runF fs gd 100 17 27 [.d (dq 13)] (G0 a b c) = .ok (.d (.int 13)) (G0 a b c) := by kernel_rfl
theorem dee13 (a b c : Int) : runF fs gd 100 19 36 [.d (.int 13)] (G0 a b c) = .ok (.d (dq 13)) (G0 a b c) := by kernel_rfl
theorem isq14 (a b c : Int) : runF fs gd 100 16 23 [.d da, .d db, .d (dq 14)] (G0 a b c) = .ok (.d (.bool true)) (G0 a b c) := by kernel_rfl
theorem fre14 (a b c : Int) : runF fs gd 100 16 18 [.d (dq 14)] (G0 a b c) = .ok (.d (.list [])) (G0 a b c) := by kernel_rfl
theorem dep14 (a b c : Int) : runF fs gd 100 17 27 [.d (dq 14)] (G0 a b c) = .ok (.d (.int 14)) (G0 a b c) := by kernel_rfl
theorem dee14 (a b c : Int) : runF fs gd 100 19 36 [.d (.int 14)] (G0 a b c) = .ok (.d (dq 14)) (G0 a b c) := by kernel_rfl
theorem isq15 (a b c : Int) : runF fs gd 100 16 23 [.d da, .d db, .d (dq 15)] (G0 a b c) = .ok (.d (.bool true)) (G0 a b c) := by kernel_rfl
theorem fre15 (a b c : Int) : runF fs gd 100 16 18 [.d (dq 15)] (G0 a b c) = .ok (.d (.list [])) (G0 a b c) := by kernel_rfl
theorem dep15 (a b c : Int) : runF fs gd 100 17 27 [.d (dq 15)] (G0 a b c) = .ok (.d (.int 15)) (G0 a b c) := by kernel_rfl
theorem dee15 (a b c : Int) : runF fs gd 100 19 36 [.d (.int 15)] (G0 a b c) = .ok (.d (dq 15)) (G0 a b c) := by kernel_rfl
theorem isq16 (a b c : Int) : runF fs gd 100 16 23 [.d da, .d db, .d (dq 16)] (G0 a b c) = .ok (.d (.bool true)) (G0 a b c) := by kernel_rfl
theorem fre16 (a b c : Int) : runF fs gd 100 16 18 [.d (dq 16)] (G0 a b c) = .ok (.d (.list [])) (G0 a b c) := by kernel_rfl
theorem dep16 (a b c : Int) : runF fs gd 100 17 27 [.d (dq 16)] (G0 a b c) = .ok (.d (.int 16)) (G0 a b c) := by kernel_rfl
theorem dee16 (a b c : Int) : runF fs gd 100 19 36 [.d (.int 16)] (G0 a b c) = .ok (.d (dq 16)) (G0 a b c) := by kernel_rfl
theorem isq17 (a b c : Int) : runF fs gd 100 16 23 [.d da, .d db, .d (dq 17)] (G0 a b c) = .ok (.d (.bool true)) (G0 a b c) := by kernel_rfl
theorem fre17 (a b c : Int) : runF fs gd 100 16 18 [.d (dq 17)] (G0 a b c) = .ok (.d (.list [])) (G0 a b c) := by kernel_rfl
theorem dep17 (a b c : Int) : runF fs gd 100 17 27 [.d (dq 17)] (G0 a b c) = .ok (.d (.int 17)) (G0 a b c) := by kernel_rfl
theorem dee17 (a b c : Int) : runF fs gd 100 19 36 [.d (.int 17)] (G0 a b c) = .ok (.d (dq 17)) (G0 a b c) := by kernel_rfl
theorem isq18 (a b c : Int) : runF fs gd 100 16 23 [.d da, .d db, .d (dq 18)] (G0 a b c) = .ok (.d (.bool true)) (G0 a b c) := by kernel_rfl
theorem fre18 (a b c : Int) : runF fs gd 100 16 18 [.d (dq 18)] (G0 a b c) = .ok (.d (.list [])) (G0 a b c) := by kernel_rfl
theorem dep18 (a b c : Int) : runF fs gd 100 17 27 [.d (dq 18)] (G0 a b c) = .ok (.d (.int 18)) (G0 a b c) := by kernel_rfl
theorem dee18 (a b c : Int) : runF fs gd 100 19 36 [.d (.int 18)] (G0 a b c) = .ok (.d (dq 18)) (G0 a b c) := by kernel_rfl
theorem isq19 (a b c : Int) : runF fs gd 100 16 23 [.d da, .d db, .d (dq 19)] (G0 a b c) = .ok (.d (.bool true)) (G0 a b c) := by kernel_rfl
theorem fre19 (a b c : Int) : runF fs gd 100 16 18 [.d (dq 19)] (G0 a b c) = .ok (.d (.list [])) (G0 a b c) := by kernel_rfl
theorem dep19 (a b c : Int) : runF fs gd 100 17 27 [.d (dq 19)] (G0 a b c) = .ok (.d (.int 19)) (G0 a b c) := by kernel_rfl
theorem dee19 (a b c : Int) : runF fs gd 100 19 36 [.d (.int 19)] (G0 a b c) = .ok (.d (dq 19)) (G0 a b c) := by kernel_rfl
theorem isq20 (a b c : Int) : runF fs gd 100 16 23 [.d da, .d db, .d (dq 20)] (G0 a b c) = .ok (.d (.bool true)) (G0 a b c) := by kernel_rfl
theorem fre20 (a b c : Int) : runF fs gd 100 16 18 [.d (dq 20)] (G0 a b c) = .ok (.d (.list [])) (G0 a b c) := by kernel_rfl
theorem dep20 (a b c : Int) : runF fs gd 100 17 27 [.d (dq 20)] (G0 a b c) = .ok (.d (.int 20)) (G0 a b c) := by kernel_rfl
theorem dee20 (a b c : Int) : runF fs gd 100 19 36 [.d (.int 20)] (G0 a b c) = .ok (.d (dq 20)) (G0 a b c) := by kernel_rfl
theorem isq21 (a b c : Int) : runF fs gd 100 16 23 [.d da, .d db, .d (dq 21)] (G0 a b c) = .ok (.d (.bool true)) (G0 a b c) := by kernel_rfl
theorem fre21 (a b c : Int) : runF fs gd 100 16 18 [.d (dq 21)] (G0 a b c) = .ok (.d (.list [])) (G0 a b c) := by kernel_rfl
theorem dep21 (a b c : Int) : runF fs gd 100 17 27 [.d (dq 21)] (G0 a b c) = .ok (.d (.int 21)) (G0 a b c) := by kernel_rfl
theorem dee21 (a b c : Int) : runF fs gd 100 19 36 [.d (.int 21)] (G0 a b c) = .ok (.d (dq 21)) (G0 a b c) := by kernel_rfl
theorem isq22 (a b c : Int) : runF fs gd 100 16 23 [.d da, .d db, .d (dq 22)] (G0 a b c) = .ok (.d (.bool true)) (G0 a b c) := by kernel_rfl
theorem fre22 (a b c : Int) : runF fs gd 100 16 18 [.d (dq 22)] (G0 a b c) = .ok (.d (.list [])) (G0 a b c) := by kernel_rfl
theorem dep22 (a b c : Int) : runF fs gd 100 17 27 [.d (dq 22)] (G0 a b c) = .ok (.d (.int 22)) (G0 a b c) := by kernel_rfl
theorem dee22 (a b c : Int) : runF fs gd 100 19 36 [.d (.int 22)] (G0 a b c) = .ok (.d (dq 22)) (G0 a b c) := by kernel_rfl
theorem isq23 (a b c : Int) : runF fs gd 100 16 23 [.d da, .d db, .d (dq 23)] (G0 a b c) = .ok (.d (.bool true)) (G0 a b c) := by kernel_rfl
theorem fre23 (a b c : Int) : runF fs gd 100 16 18 [.d (dq 23)] (G0 a b c) = .ok (.d (.list [])) (G0 a b c) := by kernel_rfl
theorem dep23 (a b c : Int) : runF fs gd 100 17 27 [.d (dq 23)] (G0 a b c) = .ok (.d (.int 23)) (G0 a b c) := by kernel_rfl
theorem dee23 (a b c : Int) : runF fs gd 100 19 36 [.d (.int 23)] (G0 a b c) = .ok (.d (dq 23)) (G0 a b c) := by kernel_rfl
theorem isq24 (a b c : Int) : runF fs gd 100 16 23 [.d da, .d db, .d (dq 24)] (G0 a b c) = .ok (.d (.bool true)) (G0 a b c) := by kernel_rfl
theorem fre24 (a b c : Int) : runF fs gd 100 16 18 [.d (dq 24)] (G0 a b c) = .ok (.d (.list [])) (G0 a b c) := by kernel_rfl
theorem dep24 (a b c : Int) : runF fs gd 100 17 27 [.d (dq 24)] (G0 a b c) = .ok (.d (.int 24)) (G0 a b c) := by kernel_rfl
theorem dee24 (a b c : Int) : runF fs gd 100 19 36 [.d (.int 24)] (G0 a b c) = .ok (.d (dq 24)) (G0 a b c) := by kernel_rfl
theorem isq25 (a b c : Int) : runF fs gd 100 16 23 [.d da, .d db, .d (dq 25)] (G0 a b c) = .ok (.d (.bool true)) (G0 a b c) := by kernel_rfl
theorem fre25 (a b c : Int) : runF fs gd 100 16 18 [.d (dq 25)] (G0 a b c) = .ok (.d (.list [])) (G0 a b c) := by kernel_rfl
theorem dep25 (a b c : Int) : runF fs gd 100 17 27 [.d (dq 25)] (G0 a b c) = .ok (.d (.int 25)) (G0 a b c) := by kernel_rfl
theorem dee25 (a b c : Int) : runF fs gd 100 19 36 [.d (.int 25)] (G0 a b c) = .ok (.d (dq 25)) (G0 a b c) := by kernel_rfl
theorem isq26 (a b c : Int) : runF fs gd 100 16 23 [.d da, .d db, .d (dq 26)] (G0 a b c) = .ok (.d (.bool true)) (G0 a b c) := by kernel_rfl
theorem fre26 (a b c : Int) : runF fs gd 100 16 18 [.d (dq 26)] (G0 a b c) = .ok (.d (.list [])) (G0 a b c) := by kernel_rfl
theorem dep26 (a b c : Int) : runF fs gd 100 17 27 [.d (dq 26)] (G0 a b c) = .ok (.d (.int 26)) (G0 a b c) := by kernel_rfl
theorem dee26 (a b c : Int) : runF fs gd 100 19 36 [.d (.int 26)] (G0 a b c) = .ok (.d (dq 26)) (G0 a b c) := by kernel_rfl
theorem isq27 (a b c : Int) : runF fs gd 100 16 23 [.d da, .d db, .d (dq 27)] (G0 a b c) = .ok (.d (.bool true)) (G0 a b c) := by kernel_rfl
theorem fre27 (a b c : Int) : runF fs gd 100 16 18 [.d (dq 27)] (G0 a b c) = .ok (.d (.list [])) (G0 a b c) := by kernel_rfl
theorem dep27 (a b c : Int) : runF fs gd 100 17 27 [.d (dq 27)] (G0 a b c) = .ok (.d (.int 27)) (G0 a b c) := by kernel_rfl
theorem dee27 (a b c : Int) : runF fs gd 100 19 36 [.d (.int 27)] (G0 a b c) = .ok (.d (dq 27)) (G0 a b c) := by kernel_rfl
theorem isq28 (a b c : Int) : runF fs gd 100 16 23 [.d da, .d db, .d (dq 28)] (G0 a b c) = .ok (.d (.bool true)) (G0 a b c) := by kernel_rfl
theorem fre28 (a b c : Int) : runF fs gd 100 16 18 [.d (dq 28)] (G0 a b c) = .ok (.d (.list [])) (G0 a b c) := by kernel_rfl
theorem dep28 (a b c : Int) : runF fs gd 100 17 27 [.d (dq 28)] (G0 a b c) = .ok (.d (.int 28)) (G0 a b c) := by kernel_rfl
theorem dee28 (a b c : Int) : runF fs gd 100 19 36 [.d (.int 28)] (G0 a b c) = .ok (.d (dq 28)) (G0 a b c) := by kernel_rfl
theorem isq29 (a b c : Int) : runF fs gd 100 16 23 [.d da, .d db, .d (dq 29)] (G0 a b c) = .ok (.d (.bool true)) (G0 a b c) := by kernel_rfl
theorem fre29 (a b c : Int) : runF fs gd 100 16 18 [.d (dq 29)] (G0 a b c) = .ok (.d (.list [])) (G0 a b c) := by kernel_rfl
theorem dep29 (a b c : Int) : runF fs gd 100 17 27 [.d (dq 29)] (G0 a b c) = .ok (.d (.int 29)) (G0 a b c) := by kernel_rfl
theorem dee29 (a b c : Int) : runF fs gd 100 19 36 [.d (.int 29)] (G0 a b c) = .ok (.d (dq 29)) (G0 a b c) := by kernel_rfl
theorem isq30 (a b c : Int) : runF fs gd 100 16 23 [.d da, .d db, .d (dq 30)] (G0 a b c) = .ok (.d (.bool true)) (G0 a b c) := by kernel_rfl
theorem fre30 (a b c : Int) : runF fs gd 100 16 18 [.d (dq 30)] (G0 a b c) = .ok (.d (.list [])) (G0 a b c) := by kernel_rfl
theorem dep30 (a b c : Int) : runF fs gd 100 17 27 [.d (dq 30)] (G0 a b c) = .ok (.d (.int 30)) (G0 a b c) := by kernel_rfl
theorem dee30 (a b c : Int) : runF fs gd 100 19 36 [.d (.int 30)] (G0 a b c) = .ok (.d (dq 30)) (G0 a b c) := by kernel_rfl
end Law
namespace Law
open PySem MP
def p0 : PyData := .list [lone, bare]
def p1 : PyData := .list [bare]
def p2 : PyData := .list [lone, bare, bare]
def p3 : PyData := .list [bare, bare, bare]
def p4 : PyData := .list [lone, lone, bare]
def p5 : PyData := .list [bare, lone, bare]
def p6 : PyData := .list [lone, lone, lone]
theorem sm0_1_0 (a b c : Int) : runF fs gd 100 19 35 [.d (.int 0), .d (dq 1), .d p0] (G0 a b c) = .ok (.d .none) (G0 a b c) := by kernel_rfl
theorem sm0_1_1 (a b c : Int) : runF fs gd 100 19 35 [.d (.int 1), .d (dq 1), .d p0] (G0 a b c) = .ok (.d .none) (G0 a b c) := by kernel_rfl
theorem sm0_1_2 (a b c : Int) : runF fs gd 100 19 35 [.d (.int 2), .d (dq 1), .d p0] (G0 a b c) = .ok (.d .none) (G0 a b c) := by kernel_rfl
theorem sm0_1_3 (a b c : Int) : runF fs gd 100 19 35 [.d (.int 3), .d (dq 1), .d p0] (G0 a b c) = .ok (.d .none) (G0 a b c) := by kernel_rfl
theorem sm0_2_0 (a b c : Int) : runF fs gd 100 19 35 [.d (.int 0), .d (dq 2), .d p0] (G0 a b c) = .ok (.d .none) (G0 a b c) := by kernel_rfl
theorem sm0_2_1 (a b c : Int) : runF fs gd 100 19 35 [.d (.int 1), .d (dq 2), .d p0] (G0 a b c) = .ok (.d .none) (G0 a b c) := by kernel_rfl
theorem sm0_2_2 (a b c : Int) : runF fs gd 100 19 35 [.d (.int 2), .d (dq 2), .d p0] (G0 a b c) = .ok (.d .none) (G0 a b c) := by kernel_rfl
theorem sm0_2_3 (a b c : Int) : runF fs gd 100 19 35 [.d (.int 3), .d (dq 2), .d p0] (G0 a b c) = .ok (.d .none) (G0 a b c) := by kernel_rfl
theorem sm0_3_0 (a b c : Int) : runF fs gd 100 19 35 [.d (.int 0), .d (dq 3), .d p0] (G0 a b c) = .ok (.d .none) (G0 a b c) := by kernel_rfl
theorem sm0_3_1 (a b c : Int) : runF fs gd 100 19 35 [.d (.int 1), .d (dq 3), .d p0] (G0 a b c) = .ok (.d .none) (G0 a b c) := by kernel_rfl
theorem sm0_3_2 (a b c : Int) : runF fs gd 100 19 35 [.d (.int 2), .d (dq 3), .d p0] (G0 a b c) = .ok (.d .none) (G0 a b c) := by kernel_rfl
theorem sm0_3_3 (a b c : Int) : runF fs gd 100 19 35 [.d (.int 3), .d (dq 3), .d p0] (G0 a b c) = .ok (.d .none) (G0 a b c) := by kernel_rfl
theorem sm1_1_0 (a b c : Int) : runF fs gd 100 19 35 [.d (.int 0), .d (dq 1), .d p1] (G0 a b c) = .ok (.d .none) (G0 a b c) := by kernel_rfl
theorem sm1_1_1 (a b c : Int) : runF fs gd 100 19 35 [.d (.int 1), .d (dq 1), .d p1] (G0 a b c) = .ok (.d .none) (G0 a b c) := by kernel_rfl
theorem sm1_1_2 (a b c : Int) : runF fs gd 100 19 35 [.d (.int 2), .d (dq 1), .d p1] (G0 a b c) = .ok (.d .none) (G0 a b c) := by kernel_rfl
theorem sm1_1_3 (a b c : Int) : runF fs gd 100 19 35 [.d (.int 3), .d (dq 1), .d p1] (G0 a b c) = .ok (.d .none) (G0 a b c) := by kernel_rfl
theorem sm1_2_0 (a b c : Int) : runF fs gd 100 19 35 [.d (.int 0), .d (dq 2), .d p1] (G0 a b c) = .ok (.d .none) (G0 a b c) := by kernel_rfl
theorem sm1_2_1 (a b c : Int) : runF fs gd 100 19 35 [.d (.int 1), .d (dq 2), .d p1] (G0 a b c) = .ok (.d .none) (G0 a b c) := by kernel_rfl
theorem sm1_2_2 (a b c : Int) : runF fs gd 100 19 35 [.d (.int 2), .d (dq 2), .d p1] (G0 a b c) = .ok (.d .none) (G0 a b c) := by kernel_rfl
theorem sm1_2_3 (a b c : Int) : runF fs gd 100 19 35 [.d (.int 3), .d (dq 2), .d p1] (G0 a b c) = .ok (.d .none) (G0 a b c) := by kernel_rfl
theorem sm1_3_0 (a b c : Int) : runF fs gd 100 19 35 [.d (.int 0), .d (dq 3), .d p1] (G0 a b c) = .ok (.d .none) (G0 a b c) := by kernel_rfl
theorem sm1_3_1 (a b c : Int) : runF fs gd 100 19 35 [.d (.int 1), .d (dq 3), .d p1] (G0 a b c) = .ok (.d .none) (G0 a b c) := by kernel_rfl
theorem sm1_3_2 (a b c : Int) : runF fs gd 100 19 35 [.d (.int 2), .d (dq 3), .d p1] (G0 a b c) = .ok (.d .none) (G0 a b c) := by kernel_rfl
theorem sm1_3_3 (a b c : Int) : runF fs gd 100 19 35 [.d (.int 3), .d (dq 3), .d p1] (G0 a b c) = .ok (.d .none) (G0 a b c) := by kernel_rfl
theorem sm2_1_0 (a b c : Int) : runF fs gd 100 19 35 [.d (.int 0), .d (dq 1), .d p2] (G0 a b c) = .ok (.d .none) (G0 a b c) := by kernel_rfl
theorem sm2_1_1 (a b c : Int) : runF fs gd 100 19 35 [.d (.int 1), .d (dq 1), .d p2] (G0 a b c) = .ok (.d .none) (G0 a b c) := by kernel_rfl
theorem sm2_1_2 (a b c : Int) : runF fs gd 100 19 35 [.d (.int 2), .d (dq 1), .d p2] (G0 a b c) = .ok (.d .none) (G0 a b c) := by kernel_rfl
theorem sm2_1_3 (a b c : Int) : runF fs gd 100 19 35 [.d (.int 3), .d (dq 1), .d p2] (G0 a b c) = .ok (.d .none) (G0 a b c) := by kernel_rfl
theorem sm2_2_0 (a b c : Int) : runF fs gd 100 19 35 [.d (.int 0), .d (dq 2), .d p2] (G0 a b c) = .ok (.d .none) (G0 a b c) := by kernel_rfl
theorem sm2_2_1 (a b c : Int) : runF fs gd 100 19 35 [.d (.int 1), .d (dq 2), .d p2] (G0 a b c) = .ok (.d .none) (G0 a b c) := by kernel_rfl
theorem sm2_2_2 (a b c : Int) : runF fs gd 100 19 35 [.d (.int 2), .d (dq 2), .d p2] (G0 a b c) = .ok (.d .none) (G0 a b c) := by kernel_rfl
theorem sm2_2_3 (a b c : Int) : runF fs gd 100 19 35 [.d (.int 3), .d (dq 2), .d p2] (G0 a b c) = .ok (.d .none) (G0 a b c) := by kernel_rfl
theorem sm4 (a b c : Int) : runF fs gd 100 19 35 [.d (.int 0), .d (dq 2), .d p4] (G0 a b c) = .ok (.d .none) (G0 a b c) := by kernel_rfl
theorem or0 (a b c : Int) : runF fs gd 100 19 37 [.d p0] (G0 a b c) = .ok (.d (.bool true)) (G0 a b c) := by kernel_rfl
theorem or5 (a b c : Int) : runF fs gd 100 19 37 [.d p5] (G0 a b c) = .ok (.d (.bool true)) (G0 a b c) := by kernel_rfl
theorem ho3 (a b c : Int) : runF fs gd 100 19 40 [.d (dq 3), .d p3, .d (.list [.int (10 ^ 29), .int (10 ^ 29), .int (10 ^ 29)])] (G0 a b c) = .ok (.d (.bool false)) (G0 a b c) := by kernel_rfl
theorem ho6 (a b c : Int) : runF fs gd 100 19 40 [.d (dq 2), .d p6, .d (.list [.int 0, .int 0, .int 1])] (G0 a b c) = .ok (.d (.bool true)) (G0 a b c) := by kernel_rfl
theorem pc0 (a b c : Int) : runF fs gd 100 17 13 [.d p0] (G0 a b c) = .ok (.d .none) (G0 a b c) := by kernel_rfl
theorem pc2 (a b c : Int) : runF fs gd 100 17 13 [.d p2] (G0 a b c) = .ok (.d .none) (G0 a b c) := by kernel_rfl
theorem pc3 (a b c : Int) : runF fs gd 100 17 13 [.d p3] (G0 a b c) = .ok (.d .none) (G0 a b c) := by kernel_rfl
theorem few0_7 (a b c : Int) : runF fs gd 100 17 25 [.d (.int 7), .d p0] (G0 a b c) = .exc 4 (.d (.int 64)) (G0 a b c) := by kernel_rfl
theorem few0_8 (a b c : Int) : runF fs gd 100 17 25 [.d (.int 8), .d p0] (G0 a b c) = .exc 4 (.d (.int 81)) (G0 a b c) := by kernel_rfl
theorem few0_9 (a b c : Int) : runF fs gd 100 17 25 [.d (.int 9), .d p0] (G0 a b c) = .exc 4 (.d (.int 100)) (G0 a b c) := by kernel_rfl
theorem few0_10 (a b c : Int) : runF fs gd 100 17 25 [.d (.int 10), .d p0] (G0 a b c) = .exc 4 (.d (.int 121)) (G0 a b c) := by kernel_rfl
theorem few0_11 (a b c : Int) : runF fs gd 100 17 25 [.d (.int 11), .d p0] (G0 a b c) = .exc 4 (.d (.int 144)) (G0 a b c) := by kernel_rfl
theorem few0_12 (a b c : Int) : runF fs gd 100 17 25 [.d (.int 12), .d p0] (G0 a b c) = .exc 4 (.d (.int 169)) (G0 a b c) := by kernel_rfl
theorem few0_13 (a b c : Int) : runF fs gd 100 17 25 [.d (.int 13), .d p0] (G0 a b c) = .exc 4 (.d (.int 196)) (G0 a b c) := by kernel_rfl
theorem few0_14 (a b c : Int) : runF fs gd 100 17 25 [.d (.int 14), .d p0] (G0 a b c) = .exc 4 (.d (.int 225)) (G0 a b c) := by kernel_rfl
theorem few0_15 (a b c : Int) : runF fs gd 100 17 25 [.d (.int 15), .d p0] (G0 a b c) = .exc 4 (.d (.int 256)) (G0 a b c) := by kernel_rfl
theorem few0_16 (a b c : Int) : runF fs gd 100 17 25 [.d (.int 16), .d p0] (G0 a b c) = .exc 4 (.d (.int 289)) (G0 a b c) := by kernel_rfl
theorem few0_17 (a b c : Int) : runF fs gd 100 17 25 [.d (.int 17), .d p0] (G0 a b c) = .exc 4 (.d (.int 324)) (G0 a b c) := by kernel_rfl
theorem few0_18 (a b c : Int) : runF fs gd 100 17 25 [.d (.int 18), .d p0] (G0 a b c) = .exc 4 (.d (.int 361)) (G0 a b c) := by kernel_rfl
theorem few0_19 (a b c : Int) : runF fs gd 100 17 25 [.d (.int 19), .d p0] (G0 a b c) = .exc 4 (.d (.int 400)) (G0 a b c) := by kernel_rfl
theorem few0_20 (a b c : Int) : runF fs gd 100 17 25 [.d (.int 20), .d p0] (G0 a b c) = .exc 4 (.d (.int 441)) (G0 a b c) := by kernel_rfl
theorem few0_21 (a b c : Int) : runF fs gd 100 17 25 [.d (.int 21), .d p0] (G0 a b c) = .exc 4 (.d (.int 484)) (G0 a b c) := by kernel_rfl
theorem few0_22 (a b c : Int) : runF fs gd 100 17 25 [.d (.int 22), .d p0] (G0 a b c) = .exc 4 (.d (.int 529)) (G0 a b c) := by kernel_rfl
theorem few0_23 (a b c : Int) : runF fs gd 100 17 25 [.d (.int 23), .d p0] (G0 a b c) = .exc 4 (.d (.int 576)) (G0 a b c) := by kernel_rfl
theorem few0_24 (a b c : Int) : runF fs gd 100 17 25 [.d (.int 24), .d p0] (G0 a b c) = .exc 4 (.d (.int 625)) (G0 a b c) := by kernel_rfl
theorem few0_25 (a b c : Int) : runF fs gd 100 17 25 [.d (.int 25), .d p0] (G0 a b c) = .exc 4 (.d (.int 676)) (G0 a b c) := by kernel_rfl
theorem few0_26 (a b c : Int) : runF fs gd 100 17 25 [.d (.int 26), .d p0] (G0 a b c) = .exc 4 (.d (.int 729)) (G0 a b c) := by kernel_rfl
theorem few0_27 (a b c : Int) : runF fs gd 100 17 25 [.d (.int 27), .d p0] (G0 a b c) = .exc 4 (.d (.int 784)) (G0 a b c) := by kernel_rfl
theorem few0_28 (a b c : Int) : runF fs gd 100 17 25 [.d (.int 28), .d p0] (G0 a b c) = .exc 4 (.d (.int 841)) (G0 a b c) := by kernel_rfl
theorem few0_29 (a b c : Int) : runF fs gd 100 17 25 [.d (.int 29), .d p0] (G0 a b c) = .exc 4 (.d (.int 900)) (G0 a b c) := by kernel_rfl
theorem few0_30 (a b c : Int) : runF fs gd 100 17 25 [.d (.int 30), .d p0] (G0 a b c) = .exc 4 (.d (.int 961)) (G0 a b c) := by kernel_rfl
theorem few2_3 (a b c : Int) : runF fs gd 100 17 25 [.d (.int 3), .d p2] (G0 a b c) = .exc 4 (.d (.int 64)) (G0 a b c) := by kernel_rfl
theorem few2_4 (a b c : Int) : runF fs gd 100 17 25 [.d (.int 4), .d p2] (G0 a b c) = .exc 4 (.d (.int 125)) (G0 a b c) := by kernel_rfl
theorem few2_5 (a b c : Int) : runF fs gd 100 17 25 [.d (.int 5), .d p2] (G0 a b c) = .exc 4 (.d (.int 216)) (G0 a b c) := by kernel_rfl
theorem few2_6 (a b c : Int) : runF fs gd 100 17 25 [.d (.int 6), .d p2] (G0 a b c) = .exc 4 (.d (.int 343)) (G0 a b c) := by kernel_rfl
theorem few2_7 (a b c : Int) : runF fs gd 100 17 25 [.d (.int 7), .d p2] (G0 a b c) = .exc 4 (.d (.int 512)) (G0 a b c) := by kernel_rfl
theorem few2_8 (a b c : Int) : runF fs gd 100 17 25 [.d (.int 8), .d p2] (G0 a b c) = .exc 4 (.d (.int 729)) (G0 a b c) := by kernel_rfl
theorem few2_9 (a b c : Int) : runF fs gd 100 17 25 [.d (.int 9), .d p2] (G0 a b c) = .exc 4 (.d (.int 1000)) (G0 a b c) := by kernel_rfl
theorem few2_10 (a b c : Int) : runF fs gd 100 17 25 [.d (.int 10), .d p2] (G0 a b c) = .exc 4 (.d (.int 1331)) (G0 a b c) := by kernel_rfl
theorem few2_11 (a b c : Int) : runF fs gd 100 17 25 [.d (.int 11), .d p2] (G0 a b c) = .exc 4 (.d (.int 1728)) (G0 a b c) := by kernel_rfl
theorem few2_12 (a b c : Int) : runF fs gd 100 17 25 [.d (.int 12), .d p2] (G0 a b c) = .exc 4 (.d (.int 2197)) (G0 a b c) := by kernel_rfl
theorem few2_13 (a b c : Int) : runF fs gd 100 17 25 [.d (.int 13), .d p2] (G0 a b c) = .exc 4 (.d (.int 2744)) (G0 a b c) := by kernel_rfl
theorem few2_14 (a b c : Int) : runF fs gd 100 17 25 [.d (.int 14), .d p2] (G0 a b c) = .exc 4 (.d (.int 3375)) (G0 a b c) := by kernel_rfl
theorem few2_15 (a b c : Int) : runF fs gd 100 17 25 [.d (.int 15), .d p2] (G0 a b c) = .exc 4 (.d (.int 4096)) (G0 a b c) := by kernel_rfl
theorem few2_16 (a b c : Int) : runF fs gd 100 17 25 [.d (.int 16), .d p2] (G0 a b c) = .exc 4 (.d (.int 4913)) (G0 a b c) := by kernel_rfl
theorem few2_17 (a b c : Int) : runF fs gd 100 17 25 [.d (.int 17), .d p2] (G0 a b c) = .exc 4 (.d (.int 5832)) (G0 a b c) := by kernel_rfl
theorem few2_18 (a b c : Int) : runF fs gd 100 17 25 [.d (.int 18), .d p2] (G0 a b c) = .exc 4 (.d (.int 6859)) (G0 a b c) := by kernel_rfl
theorem few2_19 (a b c : Int) : runF fs gd 100 17 25 [.d (.int 19), .d p2] (G0 a b c) = .exc 4 (.d (.int 8000)) (G0 a b c) := by kernel_rfl
theorem few2_20 (a b c : Int) : runF fs gd 100 17 25 [.d (.int 20), .d p2] (G0 a b c) = .exc 4 (.d (.int 9261)) (G0 a b c) := by kernel_rfl
theorem few2_21 (a b c : Int) : runF fs gd 100 17 25 [.d (.int 21), .d p2] (G0 a b c) = .exc 4 (.d (.int 10648)) (G0 a b c) := by kernel_rfl
theorem few2_22 (a b c : Int) : runF fs gd 100 17 25 [.d (.int 22), .d p2] (G0 a b c) = .exc 4 (.d (.int 12167)) (G0 a b c) := by kernel_rfl
theorem few2_23 (a b c : Int) : runF fs gd 100 17 25 [.d (.int 23), .d p2] (G0 a b c) = .exc 4 (.d (.int 13824)) (G0 a b c) := by kernel_rfl
theorem few2_24 (a b c : Int) : runF fs gd 100 17 25 [.d (.int 24), .d p2] (G0 a b c) = .exc 4 (.d (.int 15625)) (G0 a b c) := by kernel_rfl
theorem few2_25 (a b c : Int) : runF fs gd 100 17 25 [.d (.int 25), .d p2] (G0 a b c) = .exc 4 (.d (.int 17576)) (G0 a b c) := by kernel_rfl
theorem few2_26 (a b c : Int) : runF fs gd 100 17 25 [.d (.int 26), .d p2] (G0 a b c) = .exc 4 (.d (.int 19683)) (G0 a b c) := by kernel_rfl
theorem few2_27 (a b c : Int) : runF fs gd 100 17 25 [.d (.int 27), .d p2] (G0 a b c) = .exc 4 (.d (.int 21952)) (G0 a b c) := by kernel_rfl
theorem few2_28 (a b c : Int) : runF fs gd 100 17 25 [.d (.int 28), .d p2] (G0 a b c) = .exc 4 (.d (.int 24389)) (G0 a b c) := by kernel_rfl
theorem few2_29 (a b c : Int) : runF fs gd 100 17 25 [.d (.int 29), .d p2] (G0 a b c) = .exc 4 (.d (.int 27000)) (G0 a b c) := by kernel_rfl
theorem few2_30 (a b c : Int) : runF fs gd 100 17 25 [.d (.int 30), .d p2] (G0 a b c) = .exc 4 (.d (.int 29791)) (G0 a b c) := by kernel_rfl
theorem few3_3 (a b c : Int) : runF fs gd 100 17 25 [.d (.int 3), .d p3] (G0 a b c) = .exc 4 (.d (.int 64)) (G0 a b c) := by kernel_rfl
theorem clT (P : PyData) (hp : P = p0 ∨ P = p2 ∨ P = p3) (q : PyData) (hq : q = .tuple [.str "true"] ∨ q = .tuple [.str "false"]) (a b c : Int) : runF fs gd 100 17 24 [.d P, .d q] (G0 a b c) = .ok (.d .none) (G0 a b c) := by
  rcases hp with rfl | rfl | rfl <;> rcases hq with rfl | rfl <;> kernel_rfl
theorem dpT (q : PyData) (hq : q = .tuple [.str "true"] ∨ q = .tuple [.str "false"]) (a b c : Int) : runF fs gd 100 17 27 [.d q] (G0 a b c) = .ok (.d (.int 0)) (G0 a b c) := by
  rcases hq with rfl | rfl <;> kernel_rfl
end Law
namespace Law
open PySem MP
/-- a question that is one, its depth, too many cuts -/
structure Big (P q : PyData) (dd m : Int) : Prop where
  isq : ∀ a b c, runF fs gd 100 16 23 [.d da, .d db, .d q] (G0 a b c) = .ok (.d (.bool true)) (G0 a b c)
  fre : ∀ a b c, runF fs gd 100 16 18 [.d q] (G0 a b c) = .ok (.d (.list [])) (G0 a b c)
  dep : ∀ a b c, runF fs gd 100 17 27 [.d q] (G0 a b c) = .ok (.d (.int dd)) (G0 a b c)
  few : ∀ a b c, runF fs gd 100 17 25 [.d (.int dd), .d P] (G0 a b c) = .exc 4 (.d (.int m)) (G0 a b c)
  pcs : ∀ a b c, runF fs gd 100 17 13 [.d P] (G0 a b c) = .ok (.d .none) (G0 a b c)
  hP : P = p0 ∨ P = p2 ∨ P = p3
  pos : 0 < dd
section
variable {P q : PyData} {dd m a b c : Int}
theorem Big.marks (h : Big P q dd m) : evE (runF fs gd 100 16) gd (.ix (.ix (v 0) (i 0)) (i 1)) [some (.d P), some (.d q)] (G0 a b c) = .ok (.d da) (G0 a b c) ∧ evE (runF fs gd 100 16) gd (.ix (.ix (v 0) (i 0)) (i 2)) [some (.d P), some (.d q)] (G0 a b c) = .ok (.d db) (G0 a b c) := by
  rcases h.hP with rfl | rfl | rfl <;> exact ⟨by kernel_rfl, by kernel_rfl⟩
theorem Big.closed (h : Big P q dd m) : runF fs gd 100 17 24 [.d P, .d q] (G0 a b c) = .ok (.d .none) (G0 a b c) := by
  rw [run_eq (d := f24) rfl rfl]
  have body : exSs (runF fs gd 100 16) gd 100 b24 [some (.d P), some (.d q)] (G0 a b c) = .next [some (.d P), some (.d q)] (G0 a b c) := by
    refine snext (xifF (torF (tnot (k := true) (tcall (econs h.marks.1 (econs h.marks.2 (econs rfl rfl))) (h.isq a b c) rfl)) (tcmp (k := false) (ecall (econs rfl rfl) (h.fre a b c)) rfl rfl rfl)) snil) snil
  show fin false 1 (exSs (runF fs gd 100 16) gd 100 b24 [some (.d P), some (.d q)] (G0 a b c)) = _
  rw [body]
  rfl
theorem Big.between (h : Big P q dd m) : evT (runF fs gd 100 17) gd (.not (.call 8 (es [(v 2), (i 0), (.op .sub false (.bi .len false (es [(v 1)])) (i 1))]))) [some (.d q), some (.d P), some (.d (.int 0)), none, none, none, none, none] (G0 a b c) = .ok false (G0 a b c) := by
  rcases h.hP with rfl | rfl | rfl <;> kernel_rfl
theorem Big.cuts (h : Big P q dd m) : runF fs gd 100 18 32 [.d q, .d P] (G0 a b c) = .exc 4 (.d (.int m)) (G0 a b c) := by
  rw [run_eq (d := f32) rfl rfl]
  have body : exSs (runF fs gd 100 17) gd 100 b32 [some (.d q), some (.d P)] (G0 a b c) = .exc 4 (.d (.int m)) [some (.d q), some (.d P)] (G0 a b c) := by
    refine snext (xexpr (ecall (econs rfl rfl) (h.pcs a b c))) ?_
    refine snext (xexpr (ecall (econs rfl (econs rfl rfl)) h.closed)) ?_
    exact sexc (xexprX (ecall (econs (ecall (econs rfl rfl) (h.dep a b c)) (econs rfl rfl)) (h.few a b c)))
  show fin false 1 (exSs (runF fs gd 100 17) gd 100 b32 [some (.d q), some (.d P)] (G0 a b c)) = _
  rw [body]
  rfl
theorem Big.enough (h : Big P q dd m) : runF fs gd 100 18 33 [.d q, .d P, .d (.int 0)] (G0 a b c) = .exc 4 (.d (.int m)) (G0 a b c) := by
  rw [run_eq (d := f33) rfl rfl]
  have body : exSs (runF fs gd 100 17) gd 100 b33 [some (.d q), some (.d P), some (.d (.int 0)), none, none, none, none, none] (G0 a b c) = .exc 4 (.d (.int m)) [some (.d q), some (.d P), some (.d (.int 0)), some (.d (.int dd)), none, none, none, none] (G0 a b c) := by
    refine snext (xexpr (ecall (econs rfl rfl) (h.pcs a b c))) ?_
    refine snext (xexpr (ecall (econs rfl (econs rfl rfl)) h.closed)) ?_
    refine snext (xifF h.between snil) ?_
    refine snext (xasg (ecall (econs rfl rfl) (h.dep a b c))) ?_
    exact sexc (xexprX (ecall (econs rfl (econs rfl rfl)) (h.few a b c)))
  show fin false 1 (exSs (runF fs gd 100 17) gd 100 b33 [some (.d q), some (.d P), some (.d (.int 0)), none, none, none, none, none] (G0 a b c)) = _
  rw [body]
  rfl
theorem max_l (h : 0 < dd) (S : Sto) : biW gd .max2 false [.d (.int dd), .d (.int 0)] S = .ok (.d (.int dd)) S := by
  show (R.ok (W.d (.int (if 0 > dd then 0 else dd))) S) = _
  rw [if_neg (by omega)]
theorem max_r (h : 0 < dd) (S : Sto) : biW gd .max2 false [.d (.int 0), .d (.int dd)] S = .ok (.d (.int dd)) S := by
  show (R.ok (W.d (.int (if dd > 0 then dd else 0))) S) = _
  rw [if_pos h]
abbrev qF : PyData := .tuple [.str "false"]
abbrev qT : PyData := .tuple [.str "true"]
theorem Big.partL (h : Big P q dd m) : runF fs gd 100 18 34 [.d q, .d qF, .d P] (G0 a b c) = .exc 4 (.d (.int m)) (G0 a b c) := by
  rw [run_eq (d := f34) rfl rfl]
  have body : exSs (runF fs gd 100 17) gd 100 b34 [some (.d q), some (.d qF), some (.d P), none, none, none, none, none] (G0 a b c) = .exc 4 (.d (.int m)) [some (.d q), some (.d qF), some (.d P), some (.d (.int dd)), none, none, none, none] (G0 a b c) := by
    refine snext (xexpr (ecall (econs rfl rfl) (h.pcs a b c))) ?_
    refine snext (xexpr (ecall (econs rfl (econs rfl rfl)) h.closed)) ?_
    refine snext (xexpr (ecall (econs rfl (econs rfl rfl)) (clT P h.hP qF (.inr rfl) a b c))) ?_
    refine snext (xasg (ebi (econs (ecall (econs rfl rfl) (h.dep a b c)) (econs (ecall (econs rfl rfl) (dpT qF (.inr rfl) a b c)) rfl)) (max_l h.pos _))) ?_
    exact sexc (xexprX (ecall (econs rfl (econs rfl rfl)) (h.few a b c)))
  show fin false 1 (exSs (runF fs gd 100 17) gd 100 b34 [some (.d q), some (.d qF), some (.d P), none, none, none, none, none] (G0 a b c)) = _
  rw [body]
  rfl
theorem Big.partR (h : Big P q dd m) : runF fs gd 100 18 34 [.d qT, .d q, .d P] (G0 a b c) = .exc 4 (.d (.int m)) (G0 a b c) := by
  rw [run_eq (d := f34) rfl rfl]
  have body : exSs (runF fs gd 100 17) gd 100 b34 [some (.d qT), some (.d q), some (.d P), none, none, none, none, none] (G0 a b c) = .exc 4 (.d (.int m)) [some (.d qT), some (.d q), some (.d P), some (.d (.int dd)), none, none, none, none] (G0 a b c) := by
    refine snext (xexpr (ecall (econs rfl rfl) (h.pcs a b c))) ?_
    refine snext (xexpr (ecall (econs rfl (econs rfl rfl)) (clT P h.hP qT (.inl rfl) a b c))) ?_
    refine snext (xexpr (ecall (econs rfl (econs rfl rfl)) h.closed)) ?_
    refine snext (xasg (ebi (econs (ecall (econs rfl rfl) (dpT qT (.inl rfl) a b c)) (econs (ecall (econs rfl rfl) (h.dep a b c)) rfl)) (max_r h.pos _))) ?_
    exact sexc (xexprX (ecall (econs rfl (econs rfl rfl)) (h.few a b c)))
  show fin false 1 (exSs (runF fs gd 100 17) gd 100 b34 [some (.d qT), some (.d q), some (.d P), none, none, none, none, none] (G0 a b c)) = _
  rw [body]
  rfl
abbrev door0 (k : Int) (q P : PyData) : Rho := [some (.d (.int k)), some (.d q), some (.d P), none, none]
abbrev door1 (k : Int) (q P : PyData) : Rho := [some (.d (.int k)), some (.d q), some (.d P), some (.d .none), none]
theorem Big.many (h : Big P q dd m) {k : Int} (hk : k = 0 ∨ k = 1 ∨ k = 2 ∨ k = 3) : runF fs gd 100 19 35 [.d (.int k), .d q, .d P] (G0 a b c) = .ok (.d (.int m)) (G0 a b c) := by
  rw [run_eq (d := f35) rfl rfl]
  have body : exSs (runF fs gd 100 18) gd 100 b35 (door0 k q P) (G0 a b c) = .ret (.d (.int m)) (G0 a b c) := by
    refine snext (ρ' := door1 k q P) (xasg rfl) ?_
    refine snext (xtry (ρ' := door1 k q P) (S1 := G0 a b c) (v := .d (.int m)) (c' := 4) ?_ rfl rfl) (sret (xret rfl))
    rcases hk with rfl | rfl | rfl | rfl
    · exact sexc (xifT (tcmp (k := true) rfl rfl rfl rfl) (sexc (xexprX (ecall (econs rfl (econs rfl rfl)) h.cuts))))
    · exact sexc (xifF (tcmp (k := false) rfl rfl rfl rfl) (sexc (xifT (tcmp (k := true) rfl rfl rfl rfl) (sexc (xexprX (ecall (econs rfl (econs rfl (econs rfl rfl))) h.enough))))))
    · exact sexc (xifF (tcmp (k := false) rfl rfl rfl rfl) (sexc (xifF (tcmp (k := false) rfl rfl rfl rfl) (sexc (xifT (tcmp (k := true) rfl rfl rfl rfl) (sexc (xexprX (ecall (econs rfl (econs rfl (econs rfl rfl))) h.partL))))))))
    · exact sexc (xifF (tcmp (k := false) rfl rfl rfl rfl) (sexc (xifF (tcmp (k := false) rfl rfl rfl rfl) (sexc (xifF (tcmp (k := false) rfl rfl rfl rfl) (sexc (xexprX (ecall (econs rfl (econs rfl (econs rfl rfl))) h.partR))))))))
  show fin false 1 (exSs (runF fs gd 100 18) gd 100 b35 (door0 k q P) (G0 a b c)) = _
  rw [body]
  rfl
end
end Law
namespace Law
open PySem MP
def tl : MSs → Nat → MSs | m, 0 => m | .cons _ r, n + 1 => tl r n | .nil, _ => .nil
theorem eand {F : Nat → List W → Sto → R W} {gd : Gd} {x y : ME} {ρ : Rho} {S S1 : Sto} {w : W} {rr : R W} (h : evE F gd x ρ S = .ok w S1) (ht : tru S1 w = some true) (h2 : evE F gd y ρ S1 = rr) : evE F gd (.and x y) ρ S = rr := by rw [evE_and, h, Rbind_ok, ht]; exact h2
theorem doors {X Y : ME} {x q P : PyData} {dd a b c : Int} {y0 y1 y2 y3 y4 y5 y6 y7 : Option W} (hX : ∀ k, evE (runF fs gd 100 19) gd X [y0, y1, y2, y3, y4, y5, y6, y7, some (.d (.int k))] (G0 a b c) = .ok (.d (.int dd)) (G0 a b c)) (hY : ∀ k, evE (runF fs gd 100 19) gd Y [y0, y1, y2, y3, y4, y5, y6, y7, some (.d (.int k))] (G0 a b c) = .ok (.d P) (G0 a b c))
    (h36 : runF fs gd 100 19 36 [.d (.int dd)] (G0 a b c) = .ok (.d q) (G0 a b c)) (h35 : ∀ k, (k = 0 ∨ k = 1 ∨ k = 2 ∨ k = 3) → runF fs gd 100 19 35 [.d (.int k), .d q, .d P] (G0 a b c) = .ok (.d x) (G0 a b c)) :
    evE (runF fs gd 100 19) gd (.comp false (.call 35 (es [(v 8), (.call 36 (es [X])), Y])) (.nm 8) .range1 (es [(i 4)]) .none [("door", 8)]) [y0, y1, y2, y3, y4, y5, y6, y7, none] (G0 a b c) = .ok (.d (.list [x, x, x, x])) (G0 a b c) := by
  have one : ∀ k, (k = 0 ∨ k = 1 ∨ k = 2 ∨ k = 3) → evE (runF fs gd 100 19) gd (.call 35 (es [(v 8), (.call 36 (es [X])), Y])) [y0, y1, y2, y3, y4, y5, y6, y7, some (.d (.int k))] (G0 a b c) = .ok (.d x) (G0 a b c) := fun k hk =>
    ecall (econs rfl (econs (ecall (econs (hX k) rfl) h36) (econs (hY k) rfl))) (h35 k hk)
  have item := fun k hk => citem (tg := .nm 8) (it := .one (.d (.int k))) (own := [8]) (ρ := [y0, y1, y2, y3, y4, y5, y6, y7, none]) (S := G0 a b c) rfl (one k hk)
  refine ecomp (sr := .rng 0 4) (n := 4) (l := [.d x, .d x, .d x, .d x]) rfl rfl (econs rfl rfl) rfl (by decide) ?_ rfl
  refine cgo (it := .one (.d (.int 0))) (o := some (.d x)) (l := [.d x, .d x, .d x]) rfl (item 0 (by omega)) ?_
  refine cgo (it := .one (.d (.int 1))) (o := some (.d x)) (l := [.d x, .d x]) rfl (item 1 (by omega)) ?_
  refine cgo (it := .one (.d (.int 2))) (o := some (.d x)) (l := [.d x]) rfl (item 2 (by omega)) ?_
  refine cgo (it := .one (.d (.int 3))) (o := some (.d x)) (l := []) rfl (item 3 (by omega)) ?_
  exact cend rfl
abbrev rh (sc : W) (P : PyData) (y5 y6 y7 : Option W) : Rho := [some sc, some (.ref 0), some (.d lone), some (.d bare), some (.d P), y5, y6, y7, none]
abbrev st (k : Nat) : MS := match tl b41 k with | .cons s _ => s | .nil => .pass
section
variable {sc : W} {P q : PyData} {dd m a b c : Int} {y5 y6 y7 : Option W}
theorem st6_big (h : Big P q dd m) (hq : runF fs gd 100 19 36 [.d (.int dd)] (G0 a b c) = .ok (.d q) (G0 a b c)) (hne : op2 .ne false (.d (.list [.int m, .int m, .int m, .int m])) (.d (.list [.int m, .int m, .int m, .int m])) (G0 a b c) = .ok (.d (.bool false)) (G0 a b c)) :
    exS (runF fs gd 100 19) gd 100 (st 6) (rh sc P (some (.d (.int dd))) y6 (some (.d (.int m)))) (G0 a b c) = .next (rh sc P (some (.d (.int dd))) y6 (some (.d (.int m)))) (G0 a b c) := by
  refine xifT (torT (tcmp (k := true) rfl rfl rfl rfl)) (snext (xifF (tcmp (k := false) (doors (x := .int m) (q := q) (P := P) (dd := dd) (fun k => rfl) (fun k => rfl) hq fun k hk => h.many hk) (eop (elst (econs rfl rfl) (show 1 ≤ lim by decide) rfl) rfl rfl) hne rfl) snil) snil)
theorem st6_small (hs : decide (dd < 4) = true) (hq : runF fs gd 100 19 36 [.d (.int dd)] (G0 a b c) = .ok (.d q) (G0 a b c)) (hm : ∀ k, (k = 0 ∨ k = 1 ∨ k = 2 ∨ k = 3) → runF fs gd 100 19 35 [.d (.int k), .d q, .d P] (G0 a b c) = .ok (.d .none) (G0 a b c)) :
    exS (runF fs gd 100 19) gd 100 (st 6) (rh sc P (some (.d (.int dd))) y6 (some (.d .none))) (G0 a b c) = .next (rh sc P (some (.d (.int dd))) y6 (some (.d .none))) (G0 a b c) := by
  refine xifT (torF (tcmp (k := false) rfl rfl rfl rfl) (tcmp (k := true) rfl rfl ?_ rfl)) (snext (xifF (tcmp (k := false) (doors (x := .none) (q := q) (P := P) (dd := dd) (fun k => rfl) (fun k => rfl) hq hm) (eop (elst (econs rfl rfl) (show 1 ≤ lim by decide) rfl) rfl rfl) (by kernel_rfl) rfl) snil) snil)
  show (R.ok (W.d (.bool (decide (dd < 4)))) (G0 a b c)) = _
  rw [hs]
theorem st6_skip (hs : decide (dd < 4) = false) : exS (runF fs gd 100 19) gd 100 (st 6) (rh sc P (some (.d (.int dd))) y6 (some (.d .none))) (G0 a b c) = .next (rh sc P (some (.d (.int dd))) y6 (some (.d .none))) (G0 a b c) := by
  refine xifF (torF (tcmp (k := false) rfl rfl rfl rfl) (tcmp (k := false) rfl rfl ?_ rfl)) snil
  show (R.ok (W.d (.bool (decide (dd < 4)))) (G0 a b c)) = _
  rw [hs]
theorem big3 : Big p3 (dq 3) 3 64 := ⟨isq3, fre3, dep3, few3_3, pc3, .inr (.inr rfl), by decide⟩
theorem rest_ok : exSs (runF fs gd 100 19) gd 100 (tl b41 7) (rh sc P y5 y6 y7) (G0 a b c) = .ret (.d (.bool true)) (G0 a b c) := by
  refine snext (xifF (torF (tcmp (k := false) (doors (x := .int 64) (q := dq 3) (P := p3) (dd := 3) (fun k => rfl) (fun k => rfl) (dee3 a b c) fun k hk => big3.many hk) (eop (elst (ws := [.d (.int 64)]) (econs rfl rfl) (show 1 ≤ lim by decide) rfl) rfl rfl) (by kernel_rfl) rfl)
    (tcmp (k := false) (ecall (econs rfl (econs (ecall (econs rfl rfl) (dee2 a b c)) (econs (x := .d p4) rfl rfl))) (sm4 a b c)) rfl rfl rfl)) snil) ?_
  refine snext (xifF (torF (tnot (k := true) (tcall (econs (x := .d p0) rfl rfl) (or0 a b c) rfl)) (tnot (k := true) (tcall (econs (x := .d p5) rfl rfl) (or5 a b c) rfl))) snil) ?_
  refine sret (xret (eand (eop (ecall (econs (ecall (econs rfl rfl) (dee3 a b c)) (econs (x := .d p3) rfl (econs (x := .d (.list [.int (10 ^ 29), .int (10 ^ 29), .int (10 ^ 29)])) (by kernel_rfl) rfl))) (ho3 a b c)) rfl rfl) rfl ?_))
  exact eop (ecall (econs (ecall (econs rfl rfl) (dee2 a b c)) (econs (x := .d p6) rfl (econs (x := .d (.list [.int 0, .int 0, .int 1])) rfl rfl))) (ho6 a b c)) rfl rfl
end
theorem leaf0_1 (sc : W) (a b c : Int) : exSs (runF fs gd 100 19) gd 100 (tl b41 4) (rh sc p0 (some (.d (.int 1))) none none) (G0 a b c) = .ret (.d (.bool true)) (G0 a b c) :=
  snext (ρ' := rh sc p0 (some (.d (.int 1))) (some (.d (.int 4))) none) (S1 := G0 a b c) (by kernel_rfl) (snext (ρ' := rh sc p0 (some (.d (.int 1))) (some (.d (.int 4))) (some (.d .none))) (S1 := G0 a b c) (by kernel_rfl) (snext (st6_small (P := p0) (q := dq 1) (dd := 1) (by decide) (dee1 a b c) (fun k hk => by rcases hk with rfl | rfl | rfl | rfl <;> first | exact sm0_1_0 a b c | exact sm0_1_1 a b c | exact sm0_1_2 a b c | exact sm0_1_3 a b c)) rest_ok))
theorem leaf0_2 (sc : W) (a b c : Int) : exSs (runF fs gd 100 19) gd 100 (tl b41 4) (rh sc p0 (some (.d (.int 2))) none none) (G0 a b c) = .ret (.d (.bool true)) (G0 a b c) :=
  snext (ρ' := rh sc p0 (some (.d (.int 2))) (some (.d (.int 9))) none) (S1 := G0 a b c) (by kernel_rfl) (snext (ρ' := rh sc p0 (some (.d (.int 2))) (some (.d (.int 9))) (some (.d .none))) (S1 := G0 a b c) (by kernel_rfl) (snext (st6_small (P := p0) (q := dq 2) (dd := 2) (by decide) (dee2 a b c) (fun k hk => by rcases hk with rfl | rfl | rfl | rfl <;> first | exact sm0_2_0 a b c | exact sm0_2_1 a b c | exact sm0_2_2 a b c | exact sm0_2_3 a b c)) rest_ok))
theorem leaf0_3 (sc : W) (a b c : Int) : exSs (runF fs gd 100 19) gd 100 (tl b41 4) (rh sc p0 (some (.d (.int 3))) none none) (G0 a b c) = .ret (.d (.bool true)) (G0 a b c) :=
  snext (ρ' := rh sc p0 (some (.d (.int 3))) (some (.d (.int 16))) none) (S1 := G0 a b c) (by kernel_rfl) (snext (ρ' := rh sc p0 (some (.d (.int 3))) (some (.d (.int 16))) (some (.d .none))) (S1 := G0 a b c) (by kernel_rfl) (snext (st6_small (P := p0) (q := dq 3) (dd := 3) (by decide) (dee3 a b c) (fun k hk => by rcases hk with rfl | rfl | rfl | rfl <;> first | exact sm0_3_0 a b c | exact sm0_3_1 a b c | exact sm0_3_2 a b c | exact sm0_3_3 a b c)) rest_ok))
theorem leaf0_4 (sc : W) (a b c : Int) : exSs (runF fs gd 100 19) gd 100 (tl b41 4) (rh sc p0 (some (.d (.int 4))) none none) (G0 a b c) = .ret (.d (.bool true)) (G0 a b c) :=
  snext (ρ' := rh sc p0 (some (.d (.int 4))) (some (.d (.int 25))) none) (S1 := G0 a b c) (by kernel_rfl) (snext (ρ' := rh sc p0 (some (.d (.int 4))) (some (.d (.int 25))) (some (.d .none))) (S1 := G0 a b c) (by kernel_rfl) (snext (st6_skip (P := p0) (dd := 4) (by decide)) rest_ok))
theorem leaf0_5 (sc : W) (a b c : Int) : exSs (runF fs gd 100 19) gd 100 (tl b41 4) (rh sc p0 (some (.d (.int 5))) none none) (G0 a b c) = .ret (.d (.bool true)) (G0 a b c) :=
  snext (ρ' := rh sc p0 (some (.d (.int 5))) (some (.d (.int 36))) none) (S1 := G0 a b c) (by kernel_rfl) (snext (ρ' := rh sc p0 (some (.d (.int 5))) (some (.d (.int 36))) (some (.d .none))) (S1 := G0 a b c) (by kernel_rfl) (snext (st6_skip (P := p0) (dd := 5) (by decide)) rest_ok))
theorem leaf0_6 (sc : W) (a b c : Int) : exSs (runF fs gd 100 19) gd 100 (tl b41 4) (rh sc p0 (some (.d (.int 6))) none none) (G0 a b c) = .ret (.d (.bool true)) (G0 a b c) :=
  snext (ρ' := rh sc p0 (some (.d (.int 6))) (some (.d (.int 49))) none) (S1 := G0 a b c) (by kernel_rfl) (snext (ρ' := rh sc p0 (some (.d (.int 6))) (some (.d (.int 49))) (some (.d .none))) (S1 := G0 a b c) (by kernel_rfl) (snext (st6_skip (P := p0) (dd := 6) (by decide)) rest_ok))
theorem leaf0_7 (sc : W) (a b c : Int) : exSs (runF fs gd 100 19) gd 100 (tl b41 4) (rh sc p0 (some (.d (.int 7))) none none) (G0 a b c) = .ret (.d (.bool true)) (G0 a b c) :=
  snext (ρ' := rh sc p0 (some (.d (.int 7))) (some (.d (.int 64))) none) (S1 := G0 a b c) (by kernel_rfl) (snext (ρ' := rh sc p0 (some (.d (.int 7))) (some (.d (.int 64))) (some (.d (.int 64)))) (S1 := G0 a b c) (by kernel_rfl) (snext (st6_big (P := p0) (q := dq 7) (dd := 7) (m := 64) ⟨isq7, fre7, dep7, few0_7, pc0, .inl rfl, by decide⟩ (dee7 a b c) (by kernel_rfl)) rest_ok))
theorem leaf0_8 (sc : W) (a b c : Int) : exSs (runF fs gd 100 19) gd 100 (tl b41 4) (rh sc p0 (some (.d (.int 8))) none none) (G0 a b c) = .ret (.d (.bool true)) (G0 a b c) :=
  snext (ρ' := rh sc p0 (some (.d (.int 8))) (some (.d (.int 81))) none) (S1 := G0 a b c) (by kernel_rfl) (snext (ρ' := rh sc p0 (some (.d (.int 8))) (some (.d (.int 81))) (some (.d (.int 81)))) (S1 := G0 a b c) (by kernel_rfl) (snext (st6_big (P := p0) (q := dq 8) (dd := 8) (m := 81) ⟨isq8, fre8, dep8, few0_8, pc0, .inl rfl, by decide⟩ (dee8 a b c) (by kernel_rfl)) rest_ok))
theorem leaf0_9 (sc : W) (a b c : Int) : exSs (runF fs gd 100 19) gd 100 (tl b41 4) (rh sc p0 (some (.d (.int 9))) none none) (G0 a b c) = .ret (.d (.bool true)) (G0 a b c) :=
  snext (ρ' := rh sc p0 (some (.d (.int 9))) (some (.d (.int 100))) none) (S1 := G0 a b c) (by kernel_rfl) (snext (ρ' := rh sc p0 (some (.d (.int 9))) (some (.d (.int 100))) (some (.d (.int 100)))) (S1 := G0 a b c) (by kernel_rfl) (snext (st6_big (P := p0) (q := dq 9) (dd := 9) (m := 100) ⟨isq9, fre9, dep9, few0_9, pc0, .inl rfl, by decide⟩ (dee9 a b c) (by kernel_rfl)) rest_ok))
theorem leaf0_10 (sc : W) (a b c : Int) : exSs (runF fs gd 100 19) gd 100 (tl b41 4) (rh sc p0 (some (.d (.int 10))) none none) (G0 a b c) = .ret (.d (.bool true)) (G0 a b c) :=
  snext (ρ' := rh sc p0 (some (.d (.int 10))) (some (.d (.int 121))) none) (S1 := G0 a b c) (by kernel_rfl) (snext (ρ' := rh sc p0 (some (.d (.int 10))) (some (.d (.int 121))) (some (.d (.int 121)))) (S1 := G0 a b c) (by kernel_rfl) (snext (st6_big (P := p0) (q := dq 10) (dd := 10) (m := 121) ⟨isq10, fre10, dep10, few0_10, pc0, .inl rfl, by decide⟩ (dee10 a b c) (by kernel_rfl)) rest_ok))
theorem leaf0_11 (sc : W) (a b c : Int) : exSs (runF fs gd 100 19) gd 100 (tl b41 4) (rh sc p0 (some (.d (.int 11))) none none) (G0 a b c) = .ret (.d (.bool true)) (G0 a b c) :=
  snext (ρ' := rh sc p0 (some (.d (.int 11))) (some (.d (.int 144))) none) (S1 := G0 a b c) (by kernel_rfl) (snext (ρ' := rh sc p0 (some (.d (.int 11))) (some (.d (.int 144))) (some (.d (.int 144)))) (S1 := G0 a b c) (by kernel_rfl) (snext (st6_big (P := p0) (q := dq 11) (dd := 11) (m := 144) ⟨isq11, fre11, dep11, few0_11, pc0, .inl rfl, by decide⟩ (dee11 a b c) (by kernel_rfl)) rest_ok))
theorem leaf0_12 (sc : W) (a b c : Int) : exSs (runF fs gd 100 19) gd 100 (tl b41 4) (rh sc p0 (some (.d (.int 12))) none none) (G0 a b c) = .ret (.d (.bool true)) (G0 a b c) :=
  snext (ρ' := rh sc p0 (some (.d (.int 12))) (some (.d (.int 169))) none) (S1 := G0 a b c) (by kernel_rfl) (snext (ρ' := rh sc p0 (some (.d (.int 12))) (some (.d (.int 169))) (some (.d (.int 169)))) (S1 := G0 a b c) (by kernel_rfl) (snext (st6_big (P := p0) (q := dq 12) (dd := 12) (m := 169) ⟨isq12, fre12, dep12, few0_12, pc0, .inl rfl, by decide⟩ (dee12 a b c) (by kernel_rfl)) rest_ok))
theorem leaf0_13 (sc : W) (a b c : Int) : exSs (runF fs gd 100 19) gd 100 (tl b41 4) (rh sc p0 (some (.d (.int 13))) none none) (G0 a b c) = .ret (.d (.bool true)) (G0 a b c) :=
  snext (ρ' := rh sc p0 (some (.d (.int 13))) (some (.d (.int 196))) none) (S1 := G0 a b c) (by kernel_rfl) (snext (ρ' := rh sc p0 (some (.d (.int 13))) (some (.d (.int 196))) (some (.d (.int 196)))) (S1 := G0 a b c) (by kernel_rfl) (snext (st6_big (P := p0) (q := dq 13) (dd := 13) (m := 196) ⟨isq13, fre13, dep13, few0_13, pc0, .inl rfl, by decide⟩ (dee13 a b c) (by kernel_rfl)) rest_ok))
theorem leaf0_14 (sc : W) (a b c : Int) : exSs (runF fs gd 100 19) gd 100 (tl b41 4) (rh sc p0 (some (.d (.int 14))) none none) (G0 a b c) = .ret (.d (.bool true)) (G0 a b c) :=
  snext (ρ' := rh sc p0 (some (.d (.int 14))) (some (.d (.int 225))) none) (S1 := G0 a b c) (by kernel_rfl) (snext (ρ' := rh sc p0 (some (.d (.int 14))) (some (.d (.int 225))) (some (.d (.int 225)))) (S1 := G0 a b c) (by kernel_rfl) (snext (st6_big (P := p0) (q := dq 14) (dd := 14) (m := 225) ⟨isq14, fre14, dep14, few0_14, pc0, .inl rfl, by decide⟩ (dee14 a b c) (by kernel_rfl)) rest_ok))
theorem leaf0_15 (sc : W) (a b c : Int) : exSs (runF fs gd 100 19) gd 100 (tl b41 4) (rh sc p0 (some (.d (.int 15))) none none) (G0 a b c) = .ret (.d (.bool true)) (G0 a b c) :=
  snext (ρ' := rh sc p0 (some (.d (.int 15))) (some (.d (.int 256))) none) (S1 := G0 a b c) (by kernel_rfl) (snext (ρ' := rh sc p0 (some (.d (.int 15))) (some (.d (.int 256))) (some (.d (.int 256)))) (S1 := G0 a b c) (by kernel_rfl) (snext (st6_big (P := p0) (q := dq 15) (dd := 15) (m := 256) ⟨isq15, fre15, dep15, few0_15, pc0, .inl rfl, by decide⟩ (dee15 a b c) (by kernel_rfl)) rest_ok))
theorem leaf0_16 (sc : W) (a b c : Int) : exSs (runF fs gd 100 19) gd 100 (tl b41 4) (rh sc p0 (some (.d (.int 16))) none none) (G0 a b c) = .ret (.d (.bool true)) (G0 a b c) :=
  snext (ρ' := rh sc p0 (some (.d (.int 16))) (some (.d (.int 289))) none) (S1 := G0 a b c) (by kernel_rfl) (snext (ρ' := rh sc p0 (some (.d (.int 16))) (some (.d (.int 289))) (some (.d (.int 289)))) (S1 := G0 a b c) (by kernel_rfl) (snext (st6_big (P := p0) (q := dq 16) (dd := 16) (m := 289) ⟨isq16, fre16, dep16, few0_16, pc0, .inl rfl, by decide⟩ (dee16 a b c) (by kernel_rfl)) rest_ok))
theorem leaf0_17 (sc : W) (a b c : Int) : exSs (runF fs gd 100 19) gd 100 (tl b41 4) (rh sc p0 (some (.d (.int 17))) none none) (G0 a b c) = .ret (.d (.bool true)) (G0 a b c) :=
  snext (ρ' := rh sc p0 (some (.d (.int 17))) (some (.d (.int 324))) none) (S1 := G0 a b c) (by kernel_rfl) (snext (ρ' := rh sc p0 (some (.d (.int 17))) (some (.d (.int 324))) (some (.d (.int 324)))) (S1 := G0 a b c) (by kernel_rfl) (snext (st6_big (P := p0) (q := dq 17) (dd := 17) (m := 324) ⟨isq17, fre17, dep17, few0_17, pc0, .inl rfl, by decide⟩ (dee17 a b c) (by kernel_rfl)) rest_ok))
theorem leaf0_18 (sc : W) (a b c : Int) : exSs (runF fs gd 100 19) gd 100 (tl b41 4) (rh sc p0 (some (.d (.int 18))) none none) (G0 a b c) = .ret (.d (.bool true)) (G0 a b c) :=
  snext (ρ' := rh sc p0 (some (.d (.int 18))) (some (.d (.int 361))) none) (S1 := G0 a b c) (by kernel_rfl) (snext (ρ' := rh sc p0 (some (.d (.int 18))) (some (.d (.int 361))) (some (.d (.int 361)))) (S1 := G0 a b c) (by kernel_rfl) (snext (st6_big (P := p0) (q := dq 18) (dd := 18) (m := 361) ⟨isq18, fre18, dep18, few0_18, pc0, .inl rfl, by decide⟩ (dee18 a b c) (by kernel_rfl)) rest_ok))
theorem leaf0_19 (sc : W) (a b c : Int) : exSs (runF fs gd 100 19) gd 100 (tl b41 4) (rh sc p0 (some (.d (.int 19))) none none) (G0 a b c) = .ret (.d (.bool true)) (G0 a b c) :=
  snext (ρ' := rh sc p0 (some (.d (.int 19))) (some (.d (.int 400))) none) (S1 := G0 a b c) (by kernel_rfl) (snext (ρ' := rh sc p0 (some (.d (.int 19))) (some (.d (.int 400))) (some (.d (.int 400)))) (S1 := G0 a b c) (by kernel_rfl) (snext (st6_big (P := p0) (q := dq 19) (dd := 19) (m := 400) ⟨isq19, fre19, dep19, few0_19, pc0, .inl rfl, by decide⟩ (dee19 a b c) (by kernel_rfl)) rest_ok))
theorem leaf0_20 (sc : W) (a b c : Int) : exSs (runF fs gd 100 19) gd 100 (tl b41 4) (rh sc p0 (some (.d (.int 20))) none none) (G0 a b c) = .ret (.d (.bool true)) (G0 a b c) :=
  snext (ρ' := rh sc p0 (some (.d (.int 20))) (some (.d (.int 441))) none) (S1 := G0 a b c) (by kernel_rfl) (snext (ρ' := rh sc p0 (some (.d (.int 20))) (some (.d (.int 441))) (some (.d (.int 441)))) (S1 := G0 a b c) (by kernel_rfl) (snext (st6_big (P := p0) (q := dq 20) (dd := 20) (m := 441) ⟨isq20, fre20, dep20, few0_20, pc0, .inl rfl, by decide⟩ (dee20 a b c) (by kernel_rfl)) rest_ok))
theorem leaf0_21 (sc : W) (a b c : Int) : exSs (runF fs gd 100 19) gd 100 (tl b41 4) (rh sc p0 (some (.d (.int 21))) none none) (G0 a b c) = .ret (.d (.bool true)) (G0 a b c) :=
  snext (ρ' := rh sc p0 (some (.d (.int 21))) (some (.d (.int 484))) none) (S1 := G0 a b c) (by kernel_rfl) (snext (ρ' := rh sc p0 (some (.d (.int 21))) (some (.d (.int 484))) (some (.d (.int 484)))) (S1 := G0 a b c) (by kernel_rfl) (snext (st6_big (P := p0) (q := dq 21) (dd := 21) (m := 484) ⟨isq21, fre21, dep21, few0_21, pc0, .inl rfl, by decide⟩ (dee21 a b c) (by kernel_rfl)) rest_ok))
theorem leaf0_22 (sc : W) (a b c : Int) : exSs (runF fs gd 100 19) gd 100 (tl b41 4) (rh sc p0 (some (.d (.int 22))) none none) (G0 a b c) = .ret (.d (.bool true)) (G0 a b c) :=
  snext (ρ' := rh sc p0 (some (.d (.int 22))) (some (.d (.int 529))) none) (S1 := G0 a b c) (by kernel_rfl) (snext (ρ' := rh sc p0 (some (.d (.int 22))) (some (.d (.int 529))) (some (.d (.int 529)))) (S1 := G0 a b c) (by kernel_rfl) (snext (st6_big (P := p0) (q := dq 22) (dd := 22) (m := 529) ⟨isq22, fre22, dep22, few0_22, pc0, .inl rfl, by decide⟩ (dee22 a b c) (by kernel_rfl)) rest_ok))
theorem leaf0_23 (sc : W) (a b c : Int) : exSs (runF fs gd 100 19) gd 100 (tl b41 4) (rh sc p0 (some (.d (.int 23))) none none) (G0 a b c) = .ret (.d (.bool true)) (G0 a b c) :=
  snext (ρ' := rh sc p0 (some (.d (.int 23))) (some (.d (.int 576))) none) (S1 := G0 a b c) (by kernel_rfl) (snext (ρ' := rh sc p0 (some (.d (.int 23))) (some (.d (.int 576))) (some (.d (.int 576)))) (S1 := G0 a b c) (by kernel_rfl) (snext (st6_big (P := p0) (q := dq 23) (dd := 23) (m := 576) ⟨isq23, fre23, dep23, few0_23, pc0, .inl rfl, by decide⟩ (dee23 a b c) (by kernel_rfl)) rest_ok))
theorem leaf0_24 (sc : W) (a b c : Int) : exSs (runF fs gd 100 19) gd 100 (tl b41 4) (rh sc p0 (some (.d (.int 24))) none none) (G0 a b c) = .ret (.d (.bool true)) (G0 a b c) :=
  snext (ρ' := rh sc p0 (some (.d (.int 24))) (some (.d (.int 625))) none) (S1 := G0 a b c) (by kernel_rfl) (snext (ρ' := rh sc p0 (some (.d (.int 24))) (some (.d (.int 625))) (some (.d (.int 625)))) (S1 := G0 a b c) (by kernel_rfl) (snext (st6_big (P := p0) (q := dq 24) (dd := 24) (m := 625) ⟨isq24, fre24, dep24, few0_24, pc0, .inl rfl, by decide⟩ (dee24 a b c) (by kernel_rfl)) rest_ok))
theorem leaf0_25 (sc : W) (a b c : Int) : exSs (runF fs gd 100 19) gd 100 (tl b41 4) (rh sc p0 (some (.d (.int 25))) none none) (G0 a b c) = .ret (.d (.bool true)) (G0 a b c) :=
  snext (ρ' := rh sc p0 (some (.d (.int 25))) (some (.d (.int 676))) none) (S1 := G0 a b c) (by kernel_rfl) (snext (ρ' := rh sc p0 (some (.d (.int 25))) (some (.d (.int 676))) (some (.d (.int 676)))) (S1 := G0 a b c) (by kernel_rfl) (snext (st6_big (P := p0) (q := dq 25) (dd := 25) (m := 676) ⟨isq25, fre25, dep25, few0_25, pc0, .inl rfl, by decide⟩ (dee25 a b c) (by kernel_rfl)) rest_ok))
theorem leaf0_26 (sc : W) (a b c : Int) : exSs (runF fs gd 100 19) gd 100 (tl b41 4) (rh sc p0 (some (.d (.int 26))) none none) (G0 a b c) = .ret (.d (.bool true)) (G0 a b c) :=
  snext (ρ' := rh sc p0 (some (.d (.int 26))) (some (.d (.int 729))) none) (S1 := G0 a b c) (by kernel_rfl) (snext (ρ' := rh sc p0 (some (.d (.int 26))) (some (.d (.int 729))) (some (.d (.int 729)))) (S1 := G0 a b c) (by kernel_rfl) (snext (st6_big (P := p0) (q := dq 26) (dd := 26) (m := 729) ⟨isq26, fre26, dep26, few0_26, pc0, .inl rfl, by decide⟩ (dee26 a b c) (by kernel_rfl)) rest_ok))
theorem leaf0_27 (sc : W) (a b c : Int) : exSs (runF fs gd 100 19) gd 100 (tl b41 4) (rh sc p0 (some (.d (.int 27))) none none) (G0 a b c) = .ret (.d (.bool true)) (G0 a b c) :=
  snext (ρ' := rh sc p0 (some (.d (.int 27))) (some (.d (.int 784))) none) (S1 := G0 a b c) (by kernel_rfl) (snext (ρ' := rh sc p0 (some (.d (.int 27))) (some (.d (.int 784))) (some (.d (.int 784)))) (S1 := G0 a b c) (by kernel_rfl) (snext (st6_big (P := p0) (q := dq 27) (dd := 27) (m := 784) ⟨isq27, fre27, dep27, few0_27, pc0, .inl rfl, by decide⟩ (dee27 a b c) (by kernel_rfl)) rest_ok))
theorem leaf0_28 (sc : W) (a b c : Int) : exSs (runF fs gd 100 19) gd 100 (tl b41 4) (rh sc p0 (some (.d (.int 28))) none none) (G0 a b c) = .ret (.d (.bool true)) (G0 a b c) :=
  snext (ρ' := rh sc p0 (some (.d (.int 28))) (some (.d (.int 841))) none) (S1 := G0 a b c) (by kernel_rfl) (snext (ρ' := rh sc p0 (some (.d (.int 28))) (some (.d (.int 841))) (some (.d (.int 841)))) (S1 := G0 a b c) (by kernel_rfl) (snext (st6_big (P := p0) (q := dq 28) (dd := 28) (m := 841) ⟨isq28, fre28, dep28, few0_28, pc0, .inl rfl, by decide⟩ (dee28 a b c) (by kernel_rfl)) rest_ok))
theorem leaf0_29 (sc : W) (a b c : Int) : exSs (runF fs gd 100 19) gd 100 (tl b41 4) (rh sc p0 (some (.d (.int 29))) none none) (G0 a b c) = .ret (.d (.bool true)) (G0 a b c) :=
  snext (ρ' := rh sc p0 (some (.d (.int 29))) (some (.d (.int 900))) none) (S1 := G0 a b c) (by kernel_rfl) (snext (ρ' := rh sc p0 (some (.d (.int 29))) (some (.d (.int 900))) (some (.d (.int 900)))) (S1 := G0 a b c) (by kernel_rfl) (snext (st6_big (P := p0) (q := dq 29) (dd := 29) (m := 900) ⟨isq29, fre29, dep29, few0_29, pc0, .inl rfl, by decide⟩ (dee29 a b c) (by kernel_rfl)) rest_ok))
theorem leaf0_30 (sc : W) (a b c : Int) : exSs (runF fs gd 100 19) gd 100 (tl b41 4) (rh sc p0 (some (.d (.int 30))) none none) (G0 a b c) = .ret (.d (.bool true)) (G0 a b c) :=
  snext (ρ' := rh sc p0 (some (.d (.int 30))) (some (.d (.int 961))) none) (S1 := G0 a b c) (by kernel_rfl) (snext (ρ' := rh sc p0 (some (.d (.int 30))) (some (.d (.int 961))) (some (.d (.int 961)))) (S1 := G0 a b c) (by kernel_rfl) (snext (st6_big (P := p0) (q := dq 30) (dd := 30) (m := 961) ⟨isq30, fre30, dep30, few0_30, pc0, .inl rfl, by decide⟩ (dee30 a b c) (by kernel_rfl)) rest_ok))
theorem leaf0 : ∀ n : Nat, n < 30 → ∀ (sc : W) (a b c : Int), exSs (runF fs gd 100 19) gd 100 (tl b41 4) (rh sc p0 (some (.d (.int (1 + (n : Int))))) none none) (G0 a b c) = .ret (.d (.bool true)) (G0 a b c)
  | 0, _, sc, a, b, c => leaf0_1 sc a b c
  | 1, _, sc, a, b, c => leaf0_2 sc a b c
  | 2, _, sc, a, b, c => leaf0_3 sc a b c
  | 3, _, sc, a, b, c => leaf0_4 sc a b c
  | 4, _, sc, a, b, c => leaf0_5 sc a b c
  | 5, _, sc, a, b, c => leaf0_6 sc a b c
  | 6, _, sc, a, b, c => leaf0_7 sc a b c
  | 7, _, sc, a, b, c => leaf0_8 sc a b c
  | 8, _, sc, a, b, c => leaf0_9 sc a b c
  | 9, _, sc, a, b, c => leaf0_10 sc a b c
  | 10, _, sc, a, b, c => leaf0_11 sc a b c
  | 11, _, sc, a, b, c => leaf0_12 sc a b c
  | 12, _, sc, a, b, c => leaf0_13 sc a b c
  | 13, _, sc, a, b, c => leaf0_14 sc a b c
  | 14, _, sc, a, b, c => leaf0_15 sc a b c
  | 15, _, sc, a, b, c => leaf0_16 sc a b c
  | 16, _, sc, a, b, c => leaf0_17 sc a b c
  | 17, _, sc, a, b, c => leaf0_18 sc a b c
  | 18, _, sc, a, b, c => leaf0_19 sc a b c
  | 19, _, sc, a, b, c => leaf0_20 sc a b c
  | 20, _, sc, a, b, c => leaf0_21 sc a b c
  | 21, _, sc, a, b, c => leaf0_22 sc a b c
  | 22, _, sc, a, b, c => leaf0_23 sc a b c
  | 23, _, sc, a, b, c => leaf0_24 sc a b c
  | 24, _, sc, a, b, c => leaf0_25 sc a b c
  | 25, _, sc, a, b, c => leaf0_26 sc a b c
  | 26, _, sc, a, b, c => leaf0_27 sc a b c
  | 27, _, sc, a, b, c => leaf0_28 sc a b c
  | 28, _, sc, a, b, c => leaf0_29 sc a b c
  | 29, _, sc, a, b, c => leaf0_30 sc a b c
  | _ + 30, h, _, _, _, _ => by omega
theorem leaf1_1 (sc : W) (a b c : Int) : exSs (runF fs gd 100 19) gd 100 (tl b41 4) (rh sc p1 (some (.d (.int 1))) none none) (G0 a b c) = .ret (.d (.bool true)) (G0 a b c) :=
  snext (ρ' := rh sc p1 (some (.d (.int 1))) (some (.d (.int 2))) none) (S1 := G0 a b c) (by kernel_rfl) (snext (ρ' := rh sc p1 (some (.d (.int 1))) (some (.d (.int 2))) (some (.d .none))) (S1 := G0 a b c) (by kernel_rfl) (snext (st6_small (P := p1) (q := dq 1) (dd := 1) (by decide) (dee1 a b c) (fun k hk => by rcases hk with rfl | rfl | rfl | rfl <;> first | exact sm1_1_0 a b c | exact sm1_1_1 a b c | exact sm1_1_2 a b c | exact sm1_1_3 a b c)) rest_ok))
theorem leaf1_2 (sc : W) (a b c : Int) : exSs (runF fs gd 100 19) gd 100 (tl b41 4) (rh sc p1 (some (.d (.int 2))) none none) (G0 a b c) = .ret (.d (.bool true)) (G0 a b c) :=
  snext (ρ' := rh sc p1 (some (.d (.int 2))) (some (.d (.int 3))) none) (S1 := G0 a b c) (by kernel_rfl) (snext (ρ' := rh sc p1 (some (.d (.int 2))) (some (.d (.int 3))) (some (.d .none))) (S1 := G0 a b c) (by kernel_rfl) (snext (st6_small (P := p1) (q := dq 2) (dd := 2) (by decide) (dee2 a b c) (fun k hk => by rcases hk with rfl | rfl | rfl | rfl <;> first | exact sm1_2_0 a b c | exact sm1_2_1 a b c | exact sm1_2_2 a b c | exact sm1_2_3 a b c)) rest_ok))
theorem leaf1_3 (sc : W) (a b c : Int) : exSs (runF fs gd 100 19) gd 100 (tl b41 4) (rh sc p1 (some (.d (.int 3))) none none) (G0 a b c) = .ret (.d (.bool true)) (G0 a b c) :=
  snext (ρ' := rh sc p1 (some (.d (.int 3))) (some (.d (.int 4))) none) (S1 := G0 a b c) (by kernel_rfl) (snext (ρ' := rh sc p1 (some (.d (.int 3))) (some (.d (.int 4))) (some (.d .none))) (S1 := G0 a b c) (by kernel_rfl) (snext (st6_small (P := p1) (q := dq 3) (dd := 3) (by decide) (dee3 a b c) (fun k hk => by rcases hk with rfl | rfl | rfl | rfl <;> first | exact sm1_3_0 a b c | exact sm1_3_1 a b c | exact sm1_3_2 a b c | exact sm1_3_3 a b c)) rest_ok))
theorem leaf1_4 (sc : W) (a b c : Int) : exSs (runF fs gd 100 19) gd 100 (tl b41 4) (rh sc p1 (some (.d (.int 4))) none none) (G0 a b c) = .ret (.d (.bool true)) (G0 a b c) :=
  snext (ρ' := rh sc p1 (some (.d (.int 4))) (some (.d (.int 5))) none) (S1 := G0 a b c) (by kernel_rfl) (snext (ρ' := rh sc p1 (some (.d (.int 4))) (some (.d (.int 5))) (some (.d .none))) (S1 := G0 a b c) (by kernel_rfl) (snext (st6_skip (P := p1) (dd := 4) (by decide)) rest_ok))
theorem leaf1_5 (sc : W) (a b c : Int) : exSs (runF fs gd 100 19) gd 100 (tl b41 4) (rh sc p1 (some (.d (.int 5))) none none) (G0 a b c) = .ret (.d (.bool true)) (G0 a b c) :=
  snext (ρ' := rh sc p1 (some (.d (.int 5))) (some (.d (.int 6))) none) (S1 := G0 a b c) (by kernel_rfl) (snext (ρ' := rh sc p1 (some (.d (.int 5))) (some (.d (.int 6))) (some (.d .none))) (S1 := G0 a b c) (by kernel_rfl) (snext (st6_skip (P := p1) (dd := 5) (by decide)) rest_ok))
theorem leaf1_6 (sc : W) (a b c : Int) : exSs (runF fs gd 100 19) gd 100 (tl b41 4) (rh sc p1 (some (.d (.int 6))) none none) (G0 a b c) = .ret (.d (.bool true)) (G0 a b c) :=
  snext (ρ' := rh sc p1 (some (.d (.int 6))) (some (.d (.int 7))) none) (S1 := G0 a b c) (by kernel_rfl) (snext (ρ' := rh sc p1 (some (.d (.int 6))) (some (.d (.int 7))) (some (.d .none))) (S1 := G0 a b c) (by kernel_rfl) (snext (st6_skip (P := p1) (dd := 6) (by decide)) rest_ok))
theorem leaf1_7 (sc : W) (a b c : Int) : exSs (runF fs gd 100 19) gd 100 (tl b41 4) (rh sc p1 (some (.d (.int 7))) none none) (G0 a b c) = .ret (.d (.bool true)) (G0 a b c) :=
  snext (ρ' := rh sc p1 (some (.d (.int 7))) (some (.d (.int 8))) none) (S1 := G0 a b c) (by kernel_rfl) (snext (ρ' := rh sc p1 (some (.d (.int 7))) (some (.d (.int 8))) (some (.d .none))) (S1 := G0 a b c) (by kernel_rfl) (snext (st6_skip (P := p1) (dd := 7) (by decide)) rest_ok))
theorem leaf1_8 (sc : W) (a b c : Int) : exSs (runF fs gd 100 19) gd 100 (tl b41 4) (rh sc p1 (some (.d (.int 8))) none none) (G0 a b c) = .ret (.d (.bool true)) (G0 a b c) :=
  snext (ρ' := rh sc p1 (some (.d (.int 8))) (some (.d (.int 9))) none) (S1 := G0 a b c) (by kernel_rfl) (snext (ρ' := rh sc p1 (some (.d (.int 8))) (some (.d (.int 9))) (some (.d .none))) (S1 := G0 a b c) (by kernel_rfl) (snext (st6_skip (P := p1) (dd := 8) (by decide)) rest_ok))
theorem leaf1_9 (sc : W) (a b c : Int) : exSs (runF fs gd 100 19) gd 100 (tl b41 4) (rh sc p1 (some (.d (.int 9))) none none) (G0 a b c) = .ret (.d (.bool true)) (G0 a b c) :=
  snext (ρ' := rh sc p1 (some (.d (.int 9))) (some (.d (.int 10))) none) (S1 := G0 a b c) (by kernel_rfl) (snext (ρ' := rh sc p1 (some (.d (.int 9))) (some (.d (.int 10))) (some (.d .none))) (S1 := G0 a b c) (by kernel_rfl) (snext (st6_skip (P := p1) (dd := 9) (by decide)) rest_ok))
theorem leaf1_10 (sc : W) (a b c : Int) : exSs (runF fs gd 100 19) gd 100 (tl b41 4) (rh sc p1 (some (.d (.int 10))) none none) (G0 a b c) = .ret (.d (.bool true)) (G0 a b c) :=
  snext (ρ' := rh sc p1 (some (.d (.int 10))) (some (.d (.int 11))) none) (S1 := G0 a b c) (by kernel_rfl) (snext (ρ' := rh sc p1 (some (.d (.int 10))) (some (.d (.int 11))) (some (.d .none))) (S1 := G0 a b c) (by kernel_rfl) (snext (st6_skip (P := p1) (dd := 10) (by decide)) rest_ok))
theorem leaf1_11 (sc : W) (a b c : Int) : exSs (runF fs gd 100 19) gd 100 (tl b41 4) (rh sc p1 (some (.d (.int 11))) none none) (G0 a b c) = .ret (.d (.bool true)) (G0 a b c) :=
  snext (ρ' := rh sc p1 (some (.d (.int 11))) (some (.d (.int 12))) none) (S1 := G0 a b c) (by kernel_rfl) (snext (ρ' := rh sc p1 (some (.d (.int 11))) (some (.d (.int 12))) (some (.d .none))) (S1 := G0 a b c) (by kernel_rfl) (snext (st6_skip (P := p1) (dd := 11) (by decide)) rest_ok))
theorem leaf1_12 (sc : W) (a b c : Int) : exSs (runF fs gd 100 19) gd 100 (tl b41 4) (rh sc p1 (some (.d (.int 12))) none none) (G0 a b c) = .ret (.d (.bool true)) (G0 a b c) :=
  snext (ρ' := rh sc p1 (some (.d (.int 12))) (some (.d (.int 13))) none) (S1 := G0 a b c) (by kernel_rfl) (snext (ρ' := rh sc p1 (some (.d (.int 12))) (some (.d (.int 13))) (some (.d .none))) (S1 := G0 a b c) (by kernel_rfl) (snext (st6_skip (P := p1) (dd := 12) (by decide)) rest_ok))
theorem leaf1_13 (sc : W) (a b c : Int) : exSs (runF fs gd 100 19) gd 100 (tl b41 4) (rh sc p1 (some (.d (.int 13))) none none) (G0 a b c) = .ret (.d (.bool true)) (G0 a b c) :=
  snext (ρ' := rh sc p1 (some (.d (.int 13))) (some (.d (.int 14))) none) (S1 := G0 a b c) (by kernel_rfl) (snext (ρ' := rh sc p1 (some (.d (.int 13))) (some (.d (.int 14))) (some (.d .none))) (S1 := G0 a b c) (by kernel_rfl) (snext (st6_skip (P := p1) (dd := 13) (by decide)) rest_ok))
theorem leaf1_14 (sc : W) (a b c : Int) : exSs (runF fs gd 100 19) gd 100 (tl b41 4) (rh sc p1 (some (.d (.int 14))) none none) (G0 a b c) = .ret (.d (.bool true)) (G0 a b c) :=
  snext (ρ' := rh sc p1 (some (.d (.int 14))) (some (.d (.int 15))) none) (S1 := G0 a b c) (by kernel_rfl) (snext (ρ' := rh sc p1 (some (.d (.int 14))) (some (.d (.int 15))) (some (.d .none))) (S1 := G0 a b c) (by kernel_rfl) (snext (st6_skip (P := p1) (dd := 14) (by decide)) rest_ok))
theorem leaf1_15 (sc : W) (a b c : Int) : exSs (runF fs gd 100 19) gd 100 (tl b41 4) (rh sc p1 (some (.d (.int 15))) none none) (G0 a b c) = .ret (.d (.bool true)) (G0 a b c) :=
  snext (ρ' := rh sc p1 (some (.d (.int 15))) (some (.d (.int 16))) none) (S1 := G0 a b c) (by kernel_rfl) (snext (ρ' := rh sc p1 (some (.d (.int 15))) (some (.d (.int 16))) (some (.d .none))) (S1 := G0 a b c) (by kernel_rfl) (snext (st6_skip (P := p1) (dd := 15) (by decide)) rest_ok))
theorem leaf1_16 (sc : W) (a b c : Int) : exSs (runF fs gd 100 19) gd 100 (tl b41 4) (rh sc p1 (some (.d (.int 16))) none none) (G0 a b c) = .ret (.d (.bool true)) (G0 a b c) :=
  snext (ρ' := rh sc p1 (some (.d (.int 16))) (some (.d (.int 17))) none) (S1 := G0 a b c) (by kernel_rfl) (snext (ρ' := rh sc p1 (some (.d (.int 16))) (some (.d (.int 17))) (some (.d .none))) (S1 := G0 a b c) (by kernel_rfl) (snext (st6_skip (P := p1) (dd := 16) (by decide)) rest_ok))
theorem leaf1_17 (sc : W) (a b c : Int) : exSs (runF fs gd 100 19) gd 100 (tl b41 4) (rh sc p1 (some (.d (.int 17))) none none) (G0 a b c) = .ret (.d (.bool true)) (G0 a b c) :=
  snext (ρ' := rh sc p1 (some (.d (.int 17))) (some (.d (.int 18))) none) (S1 := G0 a b c) (by kernel_rfl) (snext (ρ' := rh sc p1 (some (.d (.int 17))) (some (.d (.int 18))) (some (.d .none))) (S1 := G0 a b c) (by kernel_rfl) (snext (st6_skip (P := p1) (dd := 17) (by decide)) rest_ok))
theorem leaf1_18 (sc : W) (a b c : Int) : exSs (runF fs gd 100 19) gd 100 (tl b41 4) (rh sc p1 (some (.d (.int 18))) none none) (G0 a b c) = .ret (.d (.bool true)) (G0 a b c) :=
  snext (ρ' := rh sc p1 (some (.d (.int 18))) (some (.d (.int 19))) none) (S1 := G0 a b c) (by kernel_rfl) (snext (ρ' := rh sc p1 (some (.d (.int 18))) (some (.d (.int 19))) (some (.d .none))) (S1 := G0 a b c) (by kernel_rfl) (snext (st6_skip (P := p1) (dd := 18) (by decide)) rest_ok))
theorem leaf1_19 (sc : W) (a b c : Int) : exSs (runF fs gd 100 19) gd 100 (tl b41 4) (rh sc p1 (some (.d (.int 19))) none none) (G0 a b c) = .ret (.d (.bool true)) (G0 a b c) :=
  snext (ρ' := rh sc p1 (some (.d (.int 19))) (some (.d (.int 20))) none) (S1 := G0 a b c) (by kernel_rfl) (snext (ρ' := rh sc p1 (some (.d (.int 19))) (some (.d (.int 20))) (some (.d .none))) (S1 := G0 a b c) (by kernel_rfl) (snext (st6_skip (P := p1) (dd := 19) (by decide)) rest_ok))
theorem leaf1_20 (sc : W) (a b c : Int) : exSs (runF fs gd 100 19) gd 100 (tl b41 4) (rh sc p1 (some (.d (.int 20))) none none) (G0 a b c) = .ret (.d (.bool true)) (G0 a b c) :=
  snext (ρ' := rh sc p1 (some (.d (.int 20))) (some (.d (.int 21))) none) (S1 := G0 a b c) (by kernel_rfl) (snext (ρ' := rh sc p1 (some (.d (.int 20))) (some (.d (.int 21))) (some (.d .none))) (S1 := G0 a b c) (by kernel_rfl) (snext (st6_skip (P := p1) (dd := 20) (by decide)) rest_ok))
theorem leaf1_21 (sc : W) (a b c : Int) : exSs (runF fs gd 100 19) gd 100 (tl b41 4) (rh sc p1 (some (.d (.int 21))) none none) (G0 a b c) = .ret (.d (.bool true)) (G0 a b c) :=
  snext (ρ' := rh sc p1 (some (.d (.int 21))) (some (.d (.int 22))) none) (S1 := G0 a b c) (by kernel_rfl) (snext (ρ' := rh sc p1 (some (.d (.int 21))) (some (.d (.int 22))) (some (.d .none))) (S1 := G0 a b c) (by kernel_rfl) (snext (st6_skip (P := p1) (dd := 21) (by decide)) rest_ok))
theorem leaf1_22 (sc : W) (a b c : Int) : exSs (runF fs gd 100 19) gd 100 (tl b41 4) (rh sc p1 (some (.d (.int 22))) none none) (G0 a b c) = .ret (.d (.bool true)) (G0 a b c) :=
  snext (ρ' := rh sc p1 (some (.d (.int 22))) (some (.d (.int 23))) none) (S1 := G0 a b c) (by kernel_rfl) (snext (ρ' := rh sc p1 (some (.d (.int 22))) (some (.d (.int 23))) (some (.d .none))) (S1 := G0 a b c) (by kernel_rfl) (snext (st6_skip (P := p1) (dd := 22) (by decide)) rest_ok))
theorem leaf1_23 (sc : W) (a b c : Int) : exSs (runF fs gd 100 19) gd 100 (tl b41 4) (rh sc p1 (some (.d (.int 23))) none none) (G0 a b c) = .ret (.d (.bool true)) (G0 a b c) :=
  snext (ρ' := rh sc p1 (some (.d (.int 23))) (some (.d (.int 24))) none) (S1 := G0 a b c) (by kernel_rfl) (snext (ρ' := rh sc p1 (some (.d (.int 23))) (some (.d (.int 24))) (some (.d .none))) (S1 := G0 a b c) (by kernel_rfl) (snext (st6_skip (P := p1) (dd := 23) (by decide)) rest_ok))
theorem leaf1_24 (sc : W) (a b c : Int) : exSs (runF fs gd 100 19) gd 100 (tl b41 4) (rh sc p1 (some (.d (.int 24))) none none) (G0 a b c) = .ret (.d (.bool true)) (G0 a b c) :=
  snext (ρ' := rh sc p1 (some (.d (.int 24))) (some (.d (.int 25))) none) (S1 := G0 a b c) (by kernel_rfl) (snext (ρ' := rh sc p1 (some (.d (.int 24))) (some (.d (.int 25))) (some (.d .none))) (S1 := G0 a b c) (by kernel_rfl) (snext (st6_skip (P := p1) (dd := 24) (by decide)) rest_ok))
theorem leaf1_25 (sc : W) (a b c : Int) : exSs (runF fs gd 100 19) gd 100 (tl b41 4) (rh sc p1 (some (.d (.int 25))) none none) (G0 a b c) = .ret (.d (.bool true)) (G0 a b c) :=
  snext (ρ' := rh sc p1 (some (.d (.int 25))) (some (.d (.int 26))) none) (S1 := G0 a b c) (by kernel_rfl) (snext (ρ' := rh sc p1 (some (.d (.int 25))) (some (.d (.int 26))) (some (.d .none))) (S1 := G0 a b c) (by kernel_rfl) (snext (st6_skip (P := p1) (dd := 25) (by decide)) rest_ok))
theorem leaf1_26 (sc : W) (a b c : Int) : exSs (runF fs gd 100 19) gd 100 (tl b41 4) (rh sc p1 (some (.d (.int 26))) none none) (G0 a b c) = .ret (.d (.bool true)) (G0 a b c) :=
  snext (ρ' := rh sc p1 (some (.d (.int 26))) (some (.d (.int 27))) none) (S1 := G0 a b c) (by kernel_rfl) (snext (ρ' := rh sc p1 (some (.d (.int 26))) (some (.d (.int 27))) (some (.d .none))) (S1 := G0 a b c) (by kernel_rfl) (snext (st6_skip (P := p1) (dd := 26) (by decide)) rest_ok))
theorem leaf1_27 (sc : W) (a b c : Int) : exSs (runF fs gd 100 19) gd 100 (tl b41 4) (rh sc p1 (some (.d (.int 27))) none none) (G0 a b c) = .ret (.d (.bool true)) (G0 a b c) :=
  snext (ρ' := rh sc p1 (some (.d (.int 27))) (some (.d (.int 28))) none) (S1 := G0 a b c) (by kernel_rfl) (snext (ρ' := rh sc p1 (some (.d (.int 27))) (some (.d (.int 28))) (some (.d .none))) (S1 := G0 a b c) (by kernel_rfl) (snext (st6_skip (P := p1) (dd := 27) (by decide)) rest_ok))
theorem leaf1_28 (sc : W) (a b c : Int) : exSs (runF fs gd 100 19) gd 100 (tl b41 4) (rh sc p1 (some (.d (.int 28))) none none) (G0 a b c) = .ret (.d (.bool true)) (G0 a b c) :=
  snext (ρ' := rh sc p1 (some (.d (.int 28))) (some (.d (.int 29))) none) (S1 := G0 a b c) (by kernel_rfl) (snext (ρ' := rh sc p1 (some (.d (.int 28))) (some (.d (.int 29))) (some (.d .none))) (S1 := G0 a b c) (by kernel_rfl) (snext (st6_skip (P := p1) (dd := 28) (by decide)) rest_ok))
theorem leaf1_29 (sc : W) (a b c : Int) : exSs (runF fs gd 100 19) gd 100 (tl b41 4) (rh sc p1 (some (.d (.int 29))) none none) (G0 a b c) = .ret (.d (.bool true)) (G0 a b c) :=
  snext (ρ' := rh sc p1 (some (.d (.int 29))) (some (.d (.int 30))) none) (S1 := G0 a b c) (by kernel_rfl) (snext (ρ' := rh sc p1 (some (.d (.int 29))) (some (.d (.int 30))) (some (.d .none))) (S1 := G0 a b c) (by kernel_rfl) (snext (st6_skip (P := p1) (dd := 29) (by decide)) rest_ok))
theorem leaf1_30 (sc : W) (a b c : Int) : exSs (runF fs gd 100 19) gd 100 (tl b41 4) (rh sc p1 (some (.d (.int 30))) none none) (G0 a b c) = .ret (.d (.bool true)) (G0 a b c) :=
  snext (ρ' := rh sc p1 (some (.d (.int 30))) (some (.d (.int 31))) none) (S1 := G0 a b c) (by kernel_rfl) (snext (ρ' := rh sc p1 (some (.d (.int 30))) (some (.d (.int 31))) (some (.d .none))) (S1 := G0 a b c) (by kernel_rfl) (snext (st6_skip (P := p1) (dd := 30) (by decide)) rest_ok))
theorem leaf1 : ∀ n : Nat, n < 30 → ∀ (sc : W) (a b c : Int), exSs (runF fs gd 100 19) gd 100 (tl b41 4) (rh sc p1 (some (.d (.int (1 + (n : Int))))) none none) (G0 a b c) = .ret (.d (.bool true)) (G0 a b c)
  | 0, _, sc, a, b, c => leaf1_1 sc a b c
  | 1, _, sc, a, b, c => leaf1_2 sc a b c
  | 2, _, sc, a, b, c => leaf1_3 sc a b c
  | 3, _, sc, a, b, c => leaf1_4 sc a b c
  | 4, _, sc, a, b, c => leaf1_5 sc a b c
  | 5, _, sc, a, b, c => leaf1_6 sc a b c
  | 6, _, sc, a, b, c => leaf1_7 sc a b c
  | 7, _, sc, a, b, c => leaf1_8 sc a b c
  | 8, _, sc, a, b, c => leaf1_9 sc a b c
  | 9, _, sc, a, b, c => leaf1_10 sc a b c
  | 10, _, sc, a, b, c => leaf1_11 sc a b c
  | 11, _, sc, a, b, c => leaf1_12 sc a b c
  | 12, _, sc, a, b, c => leaf1_13 sc a b c
  | 13, _, sc, a, b, c => leaf1_14 sc a b c
  | 14, _, sc, a, b, c => leaf1_15 sc a b c
  | 15, _, sc, a, b, c => leaf1_16 sc a b c
  | 16, _, sc, a, b, c => leaf1_17 sc a b c
  | 17, _, sc, a, b, c => leaf1_18 sc a b c
  | 18, _, sc, a, b, c => leaf1_19 sc a b c
  | 19, _, sc, a, b, c => leaf1_20 sc a b c
  | 20, _, sc, a, b, c => leaf1_21 sc a b c
  | 21, _, sc, a, b, c => leaf1_22 sc a b c
  | 22, _, sc, a, b, c => leaf1_23 sc a b c
  | 23, _, sc, a, b, c => leaf1_24 sc a b c
  | 24, _, sc, a, b, c => leaf1_25 sc a b c
  | 25, _, sc, a, b, c => leaf1_26 sc a b c
  | 26, _, sc, a, b, c => leaf1_27 sc a b c
  | 27, _, sc, a, b, c => leaf1_28 sc a b c
  | 28, _, sc, a, b, c => leaf1_29 sc a b c
  | 29, _, sc, a, b, c => leaf1_30 sc a b c
  | _ + 30, h, _, _, _, _ => by omega
theorem leaf2_1 (sc : W) (a b c : Int) : exSs (runF fs gd 100 19) gd 100 (tl b41 4) (rh sc p2 (some (.d (.int 1))) none none) (G0 a b c) = .ret (.d (.bool true)) (G0 a b c) :=
  snext (ρ' := rh sc p2 (some (.d (.int 1))) (some (.d (.int 8))) none) (S1 := G0 a b c) (by kernel_rfl) (snext (ρ' := rh sc p2 (some (.d (.int 1))) (some (.d (.int 8))) (some (.d .none))) (S1 := G0 a b c) (by kernel_rfl) (snext (st6_small (P := p2) (q := dq 1) (dd := 1) (by decide) (dee1 a b c) (fun k hk => by rcases hk with rfl | rfl | rfl | rfl <;> first | exact sm2_1_0 a b c | exact sm2_1_1 a b c | exact sm2_1_2 a b c | exact sm2_1_3 a b c)) rest_ok))
theorem leaf2_2 (sc : W) (a b c : Int) : exSs (runF fs gd 100 19) gd 100 (tl b41 4) (rh sc p2 (some (.d (.int 2))) none none) (G0 a b c) = .ret (.d (.bool true)) (G0 a b c) :=
  snext (ρ' := rh sc p2 (some (.d (.int 2))) (some (.d (.int 27))) none) (S1 := G0 a b c) (by kernel_rfl) (snext (ρ' := rh sc p2 (some (.d (.int 2))) (some (.d (.int 27))) (some (.d .none))) (S1 := G0 a b c) (by kernel_rfl) (snext (st6_small (P := p2) (q := dq 2) (dd := 2) (by decide) (dee2 a b c) (fun k hk => by rcases hk with rfl | rfl | rfl | rfl <;> first | exact sm2_2_0 a b c | exact sm2_2_1 a b c | exact sm2_2_2 a b c | exact sm2_2_3 a b c)) rest_ok))
theorem leaf2_3 (sc : W) (a b c : Int) : exSs (runF fs gd 100 19) gd 100 (tl b41 4) (rh sc p2 (some (.d (.int 3))) none none) (G0 a b c) = .ret (.d (.bool true)) (G0 a b c) :=
  snext (ρ' := rh sc p2 (some (.d (.int 3))) (some (.d (.int 64))) none) (S1 := G0 a b c) (by kernel_rfl) (snext (ρ' := rh sc p2 (some (.d (.int 3))) (some (.d (.int 64))) (some (.d (.int 64)))) (S1 := G0 a b c) (by kernel_rfl) (snext (st6_big (P := p2) (q := dq 3) (dd := 3) (m := 64) ⟨isq3, fre3, dep3, few2_3, pc2, .inr (.inl rfl), by decide⟩ (dee3 a b c) (by kernel_rfl)) rest_ok))
theorem leaf2_4 (sc : W) (a b c : Int) : exSs (runF fs gd 100 19) gd 100 (tl b41 4) (rh sc p2 (some (.d (.int 4))) none none) (G0 a b c) = .ret (.d (.bool true)) (G0 a b c) :=
  snext (ρ' := rh sc p2 (some (.d (.int 4))) (some (.d (.int 125))) none) (S1 := G0 a b c) (by kernel_rfl) (snext (ρ' := rh sc p2 (some (.d (.int 4))) (some (.d (.int 125))) (some (.d (.int 125)))) (S1 := G0 a b c) (by kernel_rfl) (snext (st6_big (P := p2) (q := dq 4) (dd := 4) (m := 125) ⟨isq4, fre4, dep4, few2_4, pc2, .inr (.inl rfl), by decide⟩ (dee4 a b c) (by kernel_rfl)) rest_ok))
theorem leaf2_5 (sc : W) (a b c : Int) : exSs (runF fs gd 100 19) gd 100 (tl b41 4) (rh sc p2 (some (.d (.int 5))) none none) (G0 a b c) = .ret (.d (.bool true)) (G0 a b c) :=
  snext (ρ' := rh sc p2 (some (.d (.int 5))) (some (.d (.int 216))) none) (S1 := G0 a b c) (by kernel_rfl) (snext (ρ' := rh sc p2 (some (.d (.int 5))) (some (.d (.int 216))) (some (.d (.int 216)))) (S1 := G0 a b c) (by kernel_rfl) (snext (st6_big (P := p2) (q := dq 5) (dd := 5) (m := 216) ⟨isq5, fre5, dep5, few2_5, pc2, .inr (.inl rfl), by decide⟩ (dee5 a b c) (by kernel_rfl)) rest_ok))
theorem leaf2_6 (sc : W) (a b c : Int) : exSs (runF fs gd 100 19) gd 100 (tl b41 4) (rh sc p2 (some (.d (.int 6))) none none) (G0 a b c) = .ret (.d (.bool true)) (G0 a b c) :=
  snext (ρ' := rh sc p2 (some (.d (.int 6))) (some (.d (.int 343))) none) (S1 := G0 a b c) (by kernel_rfl) (snext (ρ' := rh sc p2 (some (.d (.int 6))) (some (.d (.int 343))) (some (.d (.int 343)))) (S1 := G0 a b c) (by kernel_rfl) (snext (st6_big (P := p2) (q := dq 6) (dd := 6) (m := 343) ⟨isq6, fre6, dep6, few2_6, pc2, .inr (.inl rfl), by decide⟩ (dee6 a b c) (by kernel_rfl)) rest_ok))
theorem leaf2_7 (sc : W) (a b c : Int) : exSs (runF fs gd 100 19) gd 100 (tl b41 4) (rh sc p2 (some (.d (.int 7))) none none) (G0 a b c) = .ret (.d (.bool true)) (G0 a b c) :=
  snext (ρ' := rh sc p2 (some (.d (.int 7))) (some (.d (.int 512))) none) (S1 := G0 a b c) (by kernel_rfl) (snext (ρ' := rh sc p2 (some (.d (.int 7))) (some (.d (.int 512))) (some (.d (.int 512)))) (S1 := G0 a b c) (by kernel_rfl) (snext (st6_big (P := p2) (q := dq 7) (dd := 7) (m := 512) ⟨isq7, fre7, dep7, few2_7, pc2, .inr (.inl rfl), by decide⟩ (dee7 a b c) (by kernel_rfl)) rest_ok))
theorem leaf2_8 (sc : W) (a b c : Int) : exSs (runF fs gd 100 19) gd 100 (tl b41 4) (rh sc p2 (some (.d (.int 8))) none none) (G0 a b c) = .ret (.d (.bool true)) (G0 a b c) :=
  snext (ρ' := rh sc p2 (some (.d (.int 8))) (some (.d (.int 729))) none) (S1 := G0 a b c) (by kernel_rfl) (snext (ρ' := rh sc p2 (some (.d (.int 8))) (some (.d (.int 729))) (some (.d (.int 729)))) (S1 := G0 a b c) (by kernel_rfl) (snext (st6_big (P := p2) (q := dq 8) (dd := 8) (m := 729) ⟨isq8, fre8, dep8, few2_8, pc2, .inr (.inl rfl), by decide⟩ (dee8 a b c) (by kernel_rfl)) rest_ok))
theorem leaf2_9 (sc : W) (a b c : Int) : exSs (runF fs gd 100 19) gd 100 (tl b41 4) (rh sc p2 (some (.d (.int 9))) none none) (G0 a b c) = .ret (.d (.bool true)) (G0 a b c) :=
  snext (ρ' := rh sc p2 (some (.d (.int 9))) (some (.d (.int 1000))) none) (S1 := G0 a b c) (by kernel_rfl) (snext (ρ' := rh sc p2 (some (.d (.int 9))) (some (.d (.int 1000))) (some (.d (.int 1000)))) (S1 := G0 a b c) (by kernel_rfl) (snext (st6_big (P := p2) (q := dq 9) (dd := 9) (m := 1000) ⟨isq9, fre9, dep9, few2_9, pc2, .inr (.inl rfl), by decide⟩ (dee9 a b c) (by kernel_rfl)) rest_ok))
theorem leaf2_10 (sc : W) (a b c : Int) : exSs (runF fs gd 100 19) gd 100 (tl b41 4) (rh sc p2 (some (.d (.int 10))) none none) (G0 a b c) = .ret (.d (.bool true)) (G0 a b c) :=
  snext (ρ' := rh sc p2 (some (.d (.int 10))) (some (.d (.int 1331))) none) (S1 := G0 a b c) (by kernel_rfl) (snext (ρ' := rh sc p2 (some (.d (.int 10))) (some (.d (.int 1331))) (some (.d (.int 1331)))) (S1 := G0 a b c) (by kernel_rfl) (snext (st6_big (P := p2) (q := dq 10) (dd := 10) (m := 1331) ⟨isq10, fre10, dep10, few2_10, pc2, .inr (.inl rfl), by decide⟩ (dee10 a b c) (by kernel_rfl)) rest_ok))
theorem leaf2_11 (sc : W) (a b c : Int) : exSs (runF fs gd 100 19) gd 100 (tl b41 4) (rh sc p2 (some (.d (.int 11))) none none) (G0 a b c) = .ret (.d (.bool true)) (G0 a b c) :=
  snext (ρ' := rh sc p2 (some (.d (.int 11))) (some (.d (.int 1728))) none) (S1 := G0 a b c) (by kernel_rfl) (snext (ρ' := rh sc p2 (some (.d (.int 11))) (some (.d (.int 1728))) (some (.d (.int 1728)))) (S1 := G0 a b c) (by kernel_rfl) (snext (st6_big (P := p2) (q := dq 11) (dd := 11) (m := 1728) ⟨isq11, fre11, dep11, few2_11, pc2, .inr (.inl rfl), by decide⟩ (dee11 a b c) (by kernel_rfl)) rest_ok))
theorem leaf2_12 (sc : W) (a b c : Int) : exSs (runF fs gd 100 19) gd 100 (tl b41 4) (rh sc p2 (some (.d (.int 12))) none none) (G0 a b c) = .ret (.d (.bool true)) (G0 a b c) :=
  snext (ρ' := rh sc p2 (some (.d (.int 12))) (some (.d (.int 2197))) none) (S1 := G0 a b c) (by kernel_rfl) (snext (ρ' := rh sc p2 (some (.d (.int 12))) (some (.d (.int 2197))) (some (.d (.int 2197)))) (S1 := G0 a b c) (by kernel_rfl) (snext (st6_big (P := p2) (q := dq 12) (dd := 12) (m := 2197) ⟨isq12, fre12, dep12, few2_12, pc2, .inr (.inl rfl), by decide⟩ (dee12 a b c) (by kernel_rfl)) rest_ok))
theorem leaf2_13 (sc : W) (a b c : Int) : exSs (runF fs gd 100 19) gd 100 (tl b41 4) (rh sc p2 (some (.d (.int 13))) none none) (G0 a b c) = .ret (.d (.bool true)) (G0 a b c) :=
  snext (ρ' := rh sc p2 (some (.d (.int 13))) (some (.d (.int 2744))) none) (S1 := G0 a b c) (by kernel_rfl) (snext (ρ' := rh sc p2 (some (.d (.int 13))) (some (.d (.int 2744))) (some (.d (.int 2744)))) (S1 := G0 a b c) (by kernel_rfl) (snext (st6_big (P := p2) (q := dq 13) (dd := 13) (m := 2744) ⟨isq13, fre13, dep13, few2_13, pc2, .inr (.inl rfl), by decide⟩ (dee13 a b c) (by kernel_rfl)) rest_ok))
theorem leaf2_14 (sc : W) (a b c : Int) : exSs (runF fs gd 100 19) gd 100 (tl b41 4) (rh sc p2 (some (.d (.int 14))) none none) (G0 a b c) = .ret (.d (.bool true)) (G0 a b c) :=
  snext (ρ' := rh sc p2 (some (.d (.int 14))) (some (.d (.int 3375))) none) (S1 := G0 a b c) (by kernel_rfl) (snext (ρ' := rh sc p2 (some (.d (.int 14))) (some (.d (.int 3375))) (some (.d (.int 3375)))) (S1 := G0 a b c) (by kernel_rfl) (snext (st6_big (P := p2) (q := dq 14) (dd := 14) (m := 3375) ⟨isq14, fre14, dep14, few2_14, pc2, .inr (.inl rfl), by decide⟩ (dee14 a b c) (by kernel_rfl)) rest_ok))
theorem leaf2_15 (sc : W) (a b c : Int) : exSs (runF fs gd 100 19) gd 100 (tl b41 4) (rh sc p2 (some (.d (.int 15))) none none) (G0 a b c) = .ret (.d (.bool true)) (G0 a b c) :=
  snext (ρ' := rh sc p2 (some (.d (.int 15))) (some (.d (.int 4096))) none) (S1 := G0 a b c) (by kernel_rfl) (snext (ρ' := rh sc p2 (some (.d (.int 15))) (some (.d (.int 4096))) (some (.d (.int 4096)))) (S1 := G0 a b c) (by kernel_rfl) (snext (st6_big (P := p2) (q := dq 15) (dd := 15) (m := 4096) ⟨isq15, fre15, dep15, few2_15, pc2, .inr (.inl rfl), by decide⟩ (dee15 a b c) (by kernel_rfl)) rest_ok))
theorem leaf2_16 (sc : W) (a b c : Int) : exSs (runF fs gd 100 19) gd 100 (tl b41 4) (rh sc p2 (some (.d (.int 16))) none none) (G0 a b c) = .ret (.d (.bool true)) (G0 a b c) :=
  snext (ρ' := rh sc p2 (some (.d (.int 16))) (some (.d (.int 4913))) none) (S1 := G0 a b c) (by kernel_rfl) (snext (ρ' := rh sc p2 (some (.d (.int 16))) (some (.d (.int 4913))) (some (.d (.int 4913)))) (S1 := G0 a b c) (by kernel_rfl) (snext (st6_big (P := p2) (q := dq 16) (dd := 16) (m := 4913) ⟨isq16, fre16, dep16, few2_16, pc2, .inr (.inl rfl), by decide⟩ (dee16 a b c) (by kernel_rfl)) rest_ok))
theorem leaf2_17 (sc : W) (a b c : Int) : exSs (runF fs gd 100 19) gd 100 (tl b41 4) (rh sc p2 (some (.d (.int 17))) none none) (G0 a b c) = .ret (.d (.bool true)) (G0 a b c) :=
  snext (ρ' := rh sc p2 (some (.d (.int 17))) (some (.d (.int 5832))) none) (S1 := G0 a b c) (by kernel_rfl) (snext (ρ' := rh sc p2 (some (.d (.int 17))) (some (.d (.int 5832))) (some (.d (.int 5832)))) (S1 := G0 a b c) (by kernel_rfl) (snext (st6_big (P := p2) (q := dq 17) (dd := 17) (m := 5832) ⟨isq17, fre17, dep17, few2_17, pc2, .inr (.inl rfl), by decide⟩ (dee17 a b c) (by kernel_rfl)) rest_ok))
theorem leaf2_18 (sc : W) (a b c : Int) : exSs (runF fs gd 100 19) gd 100 (tl b41 4) (rh sc p2 (some (.d (.int 18))) none none) (G0 a b c) = .ret (.d (.bool true)) (G0 a b c) :=
  snext (ρ' := rh sc p2 (some (.d (.int 18))) (some (.d (.int 6859))) none) (S1 := G0 a b c) (by kernel_rfl) (snext (ρ' := rh sc p2 (some (.d (.int 18))) (some (.d (.int 6859))) (some (.d (.int 6859)))) (S1 := G0 a b c) (by kernel_rfl) (snext (st6_big (P := p2) (q := dq 18) (dd := 18) (m := 6859) ⟨isq18, fre18, dep18, few2_18, pc2, .inr (.inl rfl), by decide⟩ (dee18 a b c) (by kernel_rfl)) rest_ok))
theorem leaf2_19 (sc : W) (a b c : Int) : exSs (runF fs gd 100 19) gd 100 (tl b41 4) (rh sc p2 (some (.d (.int 19))) none none) (G0 a b c) = .ret (.d (.bool true)) (G0 a b c) :=
  snext (ρ' := rh sc p2 (some (.d (.int 19))) (some (.d (.int 8000))) none) (S1 := G0 a b c) (by kernel_rfl) (snext (ρ' := rh sc p2 (some (.d (.int 19))) (some (.d (.int 8000))) (some (.d (.int 8000)))) (S1 := G0 a b c) (by kernel_rfl) (snext (st6_big (P := p2) (q := dq 19) (dd := 19) (m := 8000) ⟨isq19, fre19, dep19, few2_19, pc2, .inr (.inl rfl), by decide⟩ (dee19 a b c) (by kernel_rfl)) rest_ok))
theorem leaf2_20 (sc : W) (a b c : Int) : exSs (runF fs gd 100 19) gd 100 (tl b41 4) (rh sc p2 (some (.d (.int 20))) none none) (G0 a b c) = .ret (.d (.bool true)) (G0 a b c) :=
  snext (ρ' := rh sc p2 (some (.d (.int 20))) (some (.d (.int 9261))) none) (S1 := G0 a b c) (by kernel_rfl) (snext (ρ' := rh sc p2 (some (.d (.int 20))) (some (.d (.int 9261))) (some (.d (.int 9261)))) (S1 := G0 a b c) (by kernel_rfl) (snext (st6_big (P := p2) (q := dq 20) (dd := 20) (m := 9261) ⟨isq20, fre20, dep20, few2_20, pc2, .inr (.inl rfl), by decide⟩ (dee20 a b c) (by kernel_rfl)) rest_ok))
theorem leaf2_21 (sc : W) (a b c : Int) : exSs (runF fs gd 100 19) gd 100 (tl b41 4) (rh sc p2 (some (.d (.int 21))) none none) (G0 a b c) = .ret (.d (.bool true)) (G0 a b c) :=
  snext (ρ' := rh sc p2 (some (.d (.int 21))) (some (.d (.int 10648))) none) (S1 := G0 a b c) (by kernel_rfl) (snext (ρ' := rh sc p2 (some (.d (.int 21))) (some (.d (.int 10648))) (some (.d (.int 10648)))) (S1 := G0 a b c) (by kernel_rfl) (snext (st6_big (P := p2) (q := dq 21) (dd := 21) (m := 10648) ⟨isq21, fre21, dep21, few2_21, pc2, .inr (.inl rfl), by decide⟩ (dee21 a b c) (by kernel_rfl)) rest_ok))
theorem leaf2_22 (sc : W) (a b c : Int) : exSs (runF fs gd 100 19) gd 100 (tl b41 4) (rh sc p2 (some (.d (.int 22))) none none) (G0 a b c) = .ret (.d (.bool true)) (G0 a b c) :=
  snext (ρ' := rh sc p2 (some (.d (.int 22))) (some (.d (.int 12167))) none) (S1 := G0 a b c) (by kernel_rfl) (snext (ρ' := rh sc p2 (some (.d (.int 22))) (some (.d (.int 12167))) (some (.d (.int 12167)))) (S1 := G0 a b c) (by kernel_rfl) (snext (st6_big (P := p2) (q := dq 22) (dd := 22) (m := 12167) ⟨isq22, fre22, dep22, few2_22, pc2, .inr (.inl rfl), by decide⟩ (dee22 a b c) (by kernel_rfl)) rest_ok))
theorem leaf2_23 (sc : W) (a b c : Int) : exSs (runF fs gd 100 19) gd 100 (tl b41 4) (rh sc p2 (some (.d (.int 23))) none none) (G0 a b c) = .ret (.d (.bool true)) (G0 a b c) :=
  snext (ρ' := rh sc p2 (some (.d (.int 23))) (some (.d (.int 13824))) none) (S1 := G0 a b c) (by kernel_rfl) (snext (ρ' := rh sc p2 (some (.d (.int 23))) (some (.d (.int 13824))) (some (.d (.int 13824)))) (S1 := G0 a b c) (by kernel_rfl) (snext (st6_big (P := p2) (q := dq 23) (dd := 23) (m := 13824) ⟨isq23, fre23, dep23, few2_23, pc2, .inr (.inl rfl), by decide⟩ (dee23 a b c) (by kernel_rfl)) rest_ok))
theorem leaf2_24 (sc : W) (a b c : Int) : exSs (runF fs gd 100 19) gd 100 (tl b41 4) (rh sc p2 (some (.d (.int 24))) none none) (G0 a b c) = .ret (.d (.bool true)) (G0 a b c) :=
  snext (ρ' := rh sc p2 (some (.d (.int 24))) (some (.d (.int 15625))) none) (S1 := G0 a b c) (by kernel_rfl) (snext (ρ' := rh sc p2 (some (.d (.int 24))) (some (.d (.int 15625))) (some (.d (.int 15625)))) (S1 := G0 a b c) (by kernel_rfl) (snext (st6_big (P := p2) (q := dq 24) (dd := 24) (m := 15625) ⟨isq24, fre24, dep24, few2_24, pc2, .inr (.inl rfl), by decide⟩ (dee24 a b c) (by kernel_rfl)) rest_ok))
theorem leaf2_25 (sc : W) (a b c : Int) : exSs (runF fs gd 100 19) gd 100 (tl b41 4) (rh sc p2 (some (.d (.int 25))) none none) (G0 a b c) = .ret (.d (.bool true)) (G0 a b c) :=
  snext (ρ' := rh sc p2 (some (.d (.int 25))) (some (.d (.int 17576))) none) (S1 := G0 a b c) (by kernel_rfl) (snext (ρ' := rh sc p2 (some (.d (.int 25))) (some (.d (.int 17576))) (some (.d (.int 17576)))) (S1 := G0 a b c) (by kernel_rfl) (snext (st6_big (P := p2) (q := dq 25) (dd := 25) (m := 17576) ⟨isq25, fre25, dep25, few2_25, pc2, .inr (.inl rfl), by decide⟩ (dee25 a b c) (by kernel_rfl)) rest_ok))
theorem leaf2_26 (sc : W) (a b c : Int) : exSs (runF fs gd 100 19) gd 100 (tl b41 4) (rh sc p2 (some (.d (.int 26))) none none) (G0 a b c) = .ret (.d (.bool true)) (G0 a b c) :=
  snext (ρ' := rh sc p2 (some (.d (.int 26))) (some (.d (.int 19683))) none) (S1 := G0 a b c) (by kernel_rfl) (snext (ρ' := rh sc p2 (some (.d (.int 26))) (some (.d (.int 19683))) (some (.d (.int 19683)))) (S1 := G0 a b c) (by kernel_rfl) (snext (st6_big (P := p2) (q := dq 26) (dd := 26) (m := 19683) ⟨isq26, fre26, dep26, few2_26, pc2, .inr (.inl rfl), by decide⟩ (dee26 a b c) (by kernel_rfl)) rest_ok))
theorem leaf2_27 (sc : W) (a b c : Int) : exSs (runF fs gd 100 19) gd 100 (tl b41 4) (rh sc p2 (some (.d (.int 27))) none none) (G0 a b c) = .ret (.d (.bool true)) (G0 a b c) :=
  snext (ρ' := rh sc p2 (some (.d (.int 27))) (some (.d (.int 21952))) none) (S1 := G0 a b c) (by kernel_rfl) (snext (ρ' := rh sc p2 (some (.d (.int 27))) (some (.d (.int 21952))) (some (.d (.int 21952)))) (S1 := G0 a b c) (by kernel_rfl) (snext (st6_big (P := p2) (q := dq 27) (dd := 27) (m := 21952) ⟨isq27, fre27, dep27, few2_27, pc2, .inr (.inl rfl), by decide⟩ (dee27 a b c) (by kernel_rfl)) rest_ok))
theorem leaf2_28 (sc : W) (a b c : Int) : exSs (runF fs gd 100 19) gd 100 (tl b41 4) (rh sc p2 (some (.d (.int 28))) none none) (G0 a b c) = .ret (.d (.bool true)) (G0 a b c) :=
  snext (ρ' := rh sc p2 (some (.d (.int 28))) (some (.d (.int 24389))) none) (S1 := G0 a b c) (by kernel_rfl) (snext (ρ' := rh sc p2 (some (.d (.int 28))) (some (.d (.int 24389))) (some (.d (.int 24389)))) (S1 := G0 a b c) (by kernel_rfl) (snext (st6_big (P := p2) (q := dq 28) (dd := 28) (m := 24389) ⟨isq28, fre28, dep28, few2_28, pc2, .inr (.inl rfl), by decide⟩ (dee28 a b c) (by kernel_rfl)) rest_ok))
theorem leaf2_29 (sc : W) (a b c : Int) : exSs (runF fs gd 100 19) gd 100 (tl b41 4) (rh sc p2 (some (.d (.int 29))) none none) (G0 a b c) = .ret (.d (.bool true)) (G0 a b c) :=
  snext (ρ' := rh sc p2 (some (.d (.int 29))) (some (.d (.int 27000))) none) (S1 := G0 a b c) (by kernel_rfl) (snext (ρ' := rh sc p2 (some (.d (.int 29))) (some (.d (.int 27000))) (some (.d (.int 27000)))) (S1 := G0 a b c) (by kernel_rfl) (snext (st6_big (P := p2) (q := dq 29) (dd := 29) (m := 27000) ⟨isq29, fre29, dep29, few2_29, pc2, .inr (.inl rfl), by decide⟩ (dee29 a b c) (by kernel_rfl)) rest_ok))
theorem leaf2_30 (sc : W) (a b c : Int) : exSs (runF fs gd 100 19) gd 100 (tl b41 4) (rh sc p2 (some (.d (.int 30))) none none) (G0 a b c) = .ret (.d (.bool true)) (G0 a b c) :=
  snext (ρ' := rh sc p2 (some (.d (.int 30))) (some (.d (.int 29791))) none) (S1 := G0 a b c) (by kernel_rfl) (snext (ρ' := rh sc p2 (some (.d (.int 30))) (some (.d (.int 29791))) (some (.d (.int 29791)))) (S1 := G0 a b c) (by kernel_rfl) (snext (st6_big (P := p2) (q := dq 30) (dd := 30) (m := 29791) ⟨isq30, fre30, dep30, few2_30, pc2, .inr (.inl rfl), by decide⟩ (dee30 a b c) (by kernel_rfl)) rest_ok))
theorem leaf2 : ∀ n : Nat, n < 30 → ∀ (sc : W) (a b c : Int), exSs (runF fs gd 100 19) gd 100 (tl b41 4) (rh sc p2 (some (.d (.int (1 + (n : Int))))) none none) (G0 a b c) = .ret (.d (.bool true)) (G0 a b c)
  | 0, _, sc, a, b, c => leaf2_1 sc a b c
  | 1, _, sc, a, b, c => leaf2_2 sc a b c
  | 2, _, sc, a, b, c => leaf2_3 sc a b c
  | 3, _, sc, a, b, c => leaf2_4 sc a b c
  | 4, _, sc, a, b, c => leaf2_5 sc a b c
  | 5, _, sc, a, b, c => leaf2_6 sc a b c
  | 6, _, sc, a, b, c => leaf2_7 sc a b c
  | 7, _, sc, a, b, c => leaf2_8 sc a b c
  | 8, _, sc, a, b, c => leaf2_9 sc a b c
  | 9, _, sc, a, b, c => leaf2_10 sc a b c
  | 10, _, sc, a, b, c => leaf2_11 sc a b c
  | 11, _, sc, a, b, c => leaf2_12 sc a b c
  | 12, _, sc, a, b, c => leaf2_13 sc a b c
  | 13, _, sc, a, b, c => leaf2_14 sc a b c
  | 14, _, sc, a, b, c => leaf2_15 sc a b c
  | 15, _, sc, a, b, c => leaf2_16 sc a b c
  | 16, _, sc, a, b, c => leaf2_17 sc a b c
  | 17, _, sc, a, b, c => leaf2_18 sc a b c
  | 18, _, sc, a, b, c => leaf2_19 sc a b c
  | 19, _, sc, a, b, c => leaf2_20 sc a b c
  | 20, _, sc, a, b, c => leaf2_21 sc a b c
  | 21, _, sc, a, b, c => leaf2_22 sc a b c
  | 22, _, sc, a, b, c => leaf2_23 sc a b c
  | 23, _, sc, a, b, c => leaf2_24 sc a b c
  | 24, _, sc, a, b, c => leaf2_25 sc a b c
  | 25, _, sc, a, b, c => leaf2_26 sc a b c
  | 26, _, sc, a, b, c => leaf2_27 sc a b c
  | 27, _, sc, a, b, c => leaf2_28 sc a b c
  | 28, _, sc, a, b, c => leaf2_29 sc a b c
  | 29, _, sc, a, b, c => leaf2_30 sc a b c
  | _ + 30, h, _, _, _, _ => by omega
theorem law_ok : ∀ ns : List Int, ns.length ≤ 63 → ∃ S, runF fs gd 100 20 41 [.d (.list (ns.map .int))] [] = .ok (.d (.bool true)) S := by
  intro ns _
  obtain ⟨a0, b, ha, hb0, hb1, hg⟩ := gen_ok (k := 17) ns
  obtain ⟨r1, a1, c1, e1, p1', q1, ha1, hc1, hc1'⟩ := rnd_ok (R := []) rfl (k := 17) (B := 3) ha (by decide) (by decide +kernel) hb0 hb1 (Int.le_refl 0) (by decide) (.inl (by decide +kernel))
  obtain ⟨r2, a2, c2, e2, p2', q2, ha2, hc2, hc2'⟩ := rnd_ok (R := []) rfl (k := 17) (B := 30) ha1 (by decide) (by decide +kernel) hb0 hb1 hc1 (by omega) (.inl (by decide +kernel))
  obtain ⟨n, rfl⟩ : ∃ n : Nat, r2 = n := ⟨r2.toNat, by omega⟩
  have key : ∀ P : PyData, ixW (.d (.list [p0, p1, p2])) (.d (.int r1)) (G0 a1 b c1) = .ok (.d P) (G0 a1 b c1) → exSs (runF fs gd 100 19) gd 100 (tl b41 4) (rh (.d (.list (ns.map .int))) P (some (.d (.int (1 + (n : Int))))) none none) (G0 a2 b c2) = .ret (.d (.bool true)) (G0 a2 b c2) →
      ∃ S, runF fs gd 100 20 41 [.d (.list (ns.map .int))] [] = .ok (.d (.bool true)) S := fun P hix hr => by
    have body : exSs (runF fs gd 100 19) gd 100 b41 [some (.d (.list (ns.map .int))), none, none, none, none, none, none, none, none] [] = .ret (.d (.bool true)) (G0 a2 b c2) := by
      refine snext (xasg (ecall (econs rfl (econs rfl rfl)) hg)) ?_
      refine snext (ρ' := [some (.d (.list (ns.map .int))), some (.ref 0), some (.d lone), some (.d bare), none, none, none, none, none]) (S1 := G0 a0 b 0) (by kernel_rfl) ?_
      refine snext (xasg (eix (x := .d (.list [p0, p1, p2])) (S1 := G0 a0 b 0) (by kernel_rfl) (ecall (econs rfl (econs rfl rfl)) e1) hix)) ?_
      refine snext (xasg (eop rfl (ecall (econs rfl (econs rfl rfl)) e2) rfl)) ?_
      exact hr
    refine ⟨[], ?_⟩
    rw [run_eq (d := f41) rfl rfl]
    show fin false 0 (exSs (runF fs gd 100 19) gd 100 b41 [some (.d (.list (ns.map .int))), none, none, none, none, none, none, none, none] []) = _
    rw [body]
    rfl
  have h3 : r1 = 0 ∨ r1 = 1 ∨ r1 = 2 := by omega
  rcases h3 with rfl | rfl | rfl
  · exact key p0 rfl (leaf0 n (by omega) _ _ _ _)
  · exact key p1 rfl (leaf1 n (by omega) _ _ _ _)
  · exact key p2 rfl (leaf2 n (by omega) _ _ _ _)
end Law
open PySem PySem.W PyProof.Rows in
set_option maxRecDepth 100000 in
set_option maxHeartbeats 0 in
theorem PySem.Challenge.cw_depthquestions_k63_too_many_cuts_holds : PySem.Challenge.rw_depthquestions_k63_too_many_cuts.Holds := by
  w_on; o_law; k_head; (case hw => w_witness2)
  k_fill
  refine MP.walk (l := PySem.Challenge.rw_depthquestions_k63_too_many_cuts) Law.T Law.fs Law.ts Law.gd 100 20 41 rfl rfl ⟨rfl, by decide, by decide⟩ (fun w h Y => PySem.W.kIn_of Y) Law.law_ok ⟨_, _, rfl, rfl, rfl, rfl⟩ ?F (fun w => Law.bndL _)
  case F =>
    intro w mg h KX G
    refine' Law.ent KX G ?F0 ?F1 ?F2 ?F3 ?F4 ?F5 ?F6 ?F7 ?F8 ?F9 ?F10 ?F11 ?F12 ?F13 ?F14 ?F15 ?F16 ?F17 ?F18 ?F19 ?F20 ?F21 ?F22 ?F23 ?F24 ?F25 ?F26 ?F27 ?F28 ?F29 ?F30 ?F31 ?F32 ?F33 ?F34 ?F35 ?F36 ?F37 ?F38 ?F39 ?F40 ?F41 ?F42 ?F43 ?F44 ?F45 ?L0 ?D0 ?X0 ?X1 ?X2 ?X3 ?X4 ?Y0 ?Y1 ?Y2 ?Y3 ?Y4 ?Y5 ?Y6 ?Y7 ?Y8 ?Y9 ?Y10 ?Y11 ?z_len ?z_isinstance ?z_max ?z_sum ?z_sorted ?z_int ?z_list ?z_tuple ?z_repr ?z_set ?z_min ?z_str ?z_dict ?z_bool ?z_ValueError ?z_range ?z_enumerate ?z_zip ?kit
    (case F0 => refine' MP.fnF_mk ?a ?l ?c ?k; (case a => k_is); (case l => k_is); (case c => k_is); (case k => k_is))
    (case F1 => refine' MP.fnF_mk ?a ?l ?c ?k; (case a => k_is); (case l => k_is); (case c => k_is); (case k => k_is))
    (case F2 => refine' MP.fnF_mk ?a ?l ?c ?k; (case a => k_is); (case l => k_is); (case c => k_is); (case k => k_is))
    (case F3 => refine' MP.fnF_mk ?a ?l ?c ?k; (case a => k_is); (case l => k_is); (case c => k_is); (case k => k_is))
    (case F4 => refine' MP.fnF_mk ?a ?l ?c ?k; (case a => k_is); (case l => k_is); (case c => k_is); (case k => k_is))
    (case F5 => refine' MP.fnF_mk ?a ?l ?c ?k; (case a => k_is); (case l => k_is); (case c => k_is); (case k => k_is))
    (case F6 => refine' MP.fnF_mk ?a ?l ?c ?k; (case a => k_is); (case l => k_is); (case c => k_is); (case k => k_is))
    (case F7 => refine' MP.fnF_mk ?a ?l ?c ?k; (case a => k_is); (case l => k_is); (case c => k_is); (case k => k_is))
    (case F8 => refine' MP.fnF_mk ?a ?l ?c ?k; (case a => k_is); (case l => k_is); (case c => k_is); (case k => k_is))
    (case F9 => refine' MP.fnF_mk ?a ?l ?c ?k; (case a => k_is); (case l => k_is); (case c => k_is); (case k => k_is))
    (case F10 => refine' MP.fnF_mk ?a ?l ?c ?k; (case a => k_is); (case l => k_is); (case c => k_is); (case k => k_is))
    (case F11 => refine' MP.fnF_mk ?a ?l ?c ?k; (case a => k_is); (case l => k_is); (case c => k_is); (case k => k_is))
    (case F12 => refine' MP.fnF_mk ?a ?l ?c ?k; (case a => k_is); (case l => k_is); (case c => k_is); (case k => k_is))
    (case F13 => refine' MP.fnF_mk ?a ?l ?c ?k; (case a => k_is); (case l => k_is); (case c => k_is); (case k => k_is))
    (case F14 => refine' MP.fnF_mk ?a ?l ?c ?k; (case a => k_is); (case l => k_is); (case c => k_is); (case k => k_is))
    (case F15 => refine' MP.fnF_mk ?a ?l ?c ?k; (case a => k_is); (case l => k_is); (case c => k_is); (case k => k_is))
    (case F16 => refine' MP.fnF_mk ?a ?l ?c ?k; (case a => k_is); (case l => k_is); (case c => k_is); (case k => k_is))
    (case F17 => refine' MP.fnF_mk ?a ?l ?c ?k; (case a => k_is); (case l => k_is); (case c => k_is); (case k => k_is))
    (case F18 => refine' MP.fnF_mk ?a ?l ?c ?k; (case a => k_is); (case l => k_is); (case c => k_is); (case k => k_is))
    (case F19 => refine' MP.fnF_mk ?a ?l ?c ?k; (case a => k_is); (case l => k_is); (case c => k_is); (case k => k_is))
    (case F20 => refine' MP.fnF_mk ?a ?l ?c ?k; (case a => k_is); (case l => k_is); (case c => k_is); (case k => k_is))
    (case F21 => refine' MP.fnF_mk ?a ?l ?c ?k; (case a => k_is); (case l => k_is); (case c => k_is); (case k => k_is))
    (case F22 => refine' MP.fnF_mk ?a ?l ?c ?k; (case a => k_is); (case l => k_is); (case c => k_is); (case k => k_is))
    (case F23 => refine' MP.fnF_mk ?a ?l ?c ?k; (case a => k_is); (case l => k_is); (case c => k_is); (case k => k_is))
    (case F24 => refine' MP.fnF_mk ?a ?l ?c ?k; (case a => k_is); (case l => k_is); (case c => k_is); (case k => k_is))
    (case F25 => refine' MP.fnF_mk ?a ?l ?c ?k; (case a => k_is); (case l => k_is); (case c => k_is); (case k => k_is))
    (case F26 => refine' MP.fnF_mk ?a ?l ?c ?k; (case a => k_is); (case l => k_is); (case c => k_is); (case k => k_is))
    (case F27 => refine' MP.fnF_mk ?a ?l ?c ?k; (case a => k_is); (case l => k_is); (case c => k_is); (case k => k_is))
    (case F28 => refine' MP.fnF_mk ?a ?l ?c ?k; (case a => k_is); (case l => k_is); (case c => k_is); (case k => k_is))
    (case F29 => refine' MP.fnF_mk ?a ?l ?c ?k; (case a => k_is); (case l => k_is); (case c => k_is); (case k => k_is))
    (case F30 => refine' MP.fnF_mk ?a ?l ?c ?k; (case a => k_is); (case l => k_is); (case c => k_is); (case k => k_is))
    (case F31 => refine' MP.fnF_mk ?a ?l ?c ?k; (case a => k_is); (case l => k_is); (case c => k_is); (case k => k_is))
    (case F32 => refine' MP.fnF_mk ?a ?l ?c ?k; (case a => k_is); (case l => k_is); (case c => k_is); (case k => k_is))
    (case F33 => refine' MP.fnF_mk ?a ?l ?c ?k; (case a => k_is); (case l => k_is); (case c => k_is); (case k => k_is))
    (case F34 => refine' MP.fnF_mk ?a ?l ?c ?k; (case a => k_is); (case l => k_is); (case c => k_is); (case k => k_is))
    (case F35 => refine' MP.fnF_mk ?a ?l ?c ?k; (case a => k_is); (case l => k_is); (case c => k_is); (case k => k_is))
    (case F36 => refine' MP.fnF_mk ?a ?l ?c ?k; (case a => k_is); (case l => k_is); (case c => k_is); (case k => k_is))
    (case F37 => refine' MP.fnF_mk ?a ?l ?c ?k; (case a => k_is); (case l => k_is); (case c => k_is); (case k => k_is))
    (case F38 => refine' MP.fnF_mk ?a ?l ?c ?k; (case a => k_is); (case l => k_is); (case c => k_is); (case k => k_is))
    (case F39 => refine' MP.fnF_mk ?a ?l ?c ?k; (case a => k_is); (case l => k_is); (case c => k_is); (case k => k_is))
    (case F40 => refine' MP.fnF_mk ?a ?l ?c ?k; (case a => k_is); (case l => k_is); (case c => k_is); (case k => k_is))
    (case F41 => refine' MP.fnF_mk ?a ?l ?c ?k; (case a => k_is); (case l => k_is); (case c => k_is); (case k => k_is))
    (case F42 => refine' MP.mtF_mk ?n ?a ?l ?c ?k ?i; (case n => k_is); (case a => k_is); (case l => k_is); (case c => k_is); (case k => k_is); (case i => k_is))
    (case F43 => refine' MP.mtF_mk ?n ?a ?l ?c ?k ?i; (case n => k_is); (case a => k_is); (case l => k_is); (case c => k_is); (case k => k_is); (case i => k_is))
    (case F44 => refine' MP.mtF_mk ?n ?a ?l ?c ?k ?i; (case n => k_is); (case a => k_is); (case l => k_is); (case c => k_is); (case k => k_is); (case i => k_is))
    (case F45 => refine' MP.mtF_mk ?n ?a ?l ?c ?k ?i; (case n => k_is); (case a => k_is); (case l => k_is); (case c => k_is); (case k => k_is); (case i => k_is))
    (case X0 => refine' MP.clX0 ?a ?k ?e; (case a => k_is); (case k => k_is); (case e => kernel_rfl))
    (case X1 => refine' MP.clX1 ?a (MP.sx_mk (st := L2.inClass (Law.top 2) 0) ?hB ?hP ?hS ?hL ?top ?lC ?rv ?b ?i1 ?ti ?lf ?cq ?lc ?hvs ?hf ?lcell ?ltd); (case a => k_is); (case lC => k_is); (case rv => rfl); (case i1 => k_is); (case ti => k_is); (case lf => k_is); (case cq => k_is); (case lc => k_is); (case hvs => rfl); (case hf => kernel_rfl); (case lcell => k_is); (case ltd => k_is); (case b => kernel_rfl); (case hB => rfl); (case hP => rfl); (case hS => rfl); (case hL => rfl); (case top => kernel_rfl))
    (case X2 => refine' MP.clX1 ?a (MP.sx_mk (st := L2.inClass (Law.top 3) 0) ?hB ?hP ?hS ?hL ?top ?lC ?rv ?b ?i1 ?ti ?lf ?cq ?lc ?hvs ?hf ?lcell ?ltd); (case a => k_is); (case lC => k_is); (case rv => rfl); (case i1 => k_is); (case ti => k_is); (case lf => k_is); (case cq => k_is); (case lc => k_is); (case hvs => rfl); (case hf => kernel_rfl); (case lcell => k_is); (case ltd => k_is); (case b => kernel_rfl); (case hB => rfl); (case hP => rfl); (case hS => rfl); (case hL => rfl); (case top => kernel_rfl))
    (case X3 => refine' MP.clX1 ?a (MP.sx_mk (st := L2.inClass (Law.top 4) 0) ?hB ?hP ?hS ?hL ?top ?lC ?rv ?b ?i1 ?ti ?lf ?cq ?lc ?hvs ?hf ?lcell ?ltd); (case a => k_is); (case lC => k_is); (case rv => rfl); (case i1 => k_is); (case ti => k_is); (case lf => k_is); (case cq => k_is); (case lc => k_is); (case hvs => rfl); (case hf => kernel_rfl); (case lcell => k_is); (case ltd => k_is); (case b => kernel_rfl); (case hB => rfl); (case hP => rfl); (case hS => rfl); (case hL => rfl); (case top => kernel_rfl))
    (case X4 => refine' MP.clX1 ?a (MP.sx_mk (st := L2.inClass (Law.top 5) 0) ?hB ?hP ?hS ?hL ?top ?lC ?rv ?b ?i1 ?ti ?lf ?cq ?lc ?hvs ?hf ?lcell ?ltd); (case a => k_is); (case lC => k_is); (case rv => rfl); (case i1 => k_is); (case ti => k_is); (case lf => k_is); (case cq => k_is); (case lc => k_is); (case hvs => rfl); (case hf => kernel_rfl); (case lcell => k_is); (case ltd => k_is); (case b => kernel_rfl); (case hB => rfl); (case hP => rfl); (case hS => rfl); (case hL => rfl); (case top => kernel_rfl))
    (case Y0 => refine' MP.gl_str ?a; (case a => k_is))
    (case Y1 => refine' MP.gl_str ?a; (case a => k_is))
    (case Y2 => refine' MP.gl_int ?a; (case a => k_is))
    (case Y3 => refine' MP.gl_lst ?a ?l ?b ?z; (case a => k_is); (case l => k_is); (case b => kernel_rfl); (case z => kernel_rfl))
    (case Y4 => refine' MP.gl_int ?a; (case a => k_is))
    (case Y5 => refine' MP.gl_int ?a; (case a => k_is))
    (case Y6 => refine' MP.gl_int ?a; (case a => k_is))
    (case Y7 => refine' MP.gl_int ?a; (case a => k_is))
    (case Y8 => refine' MP.gl_int ?a; (case a => k_is))
    (case Y9 => refine' MP.gl_int ?a; (case a => k_is))
    (case Y10 => refine' MP.gl_int ?a; (case a => k_is))
    (case Y11 => refine' MP.gl_int ?a; (case a => k_is))
    (case L0 => refine' MP.klX_mk ?a ?b; (case a => k_is); (case b => kernel_rfl))
    (case D0 => refine' MP.kdX_mk ?a ?b ?c ?e; (case a => k_is); (case b => k_is); (case c => kernel_rfl); (case e => kernel_rfl))
    (case z_len => k_is)
    (case z_isinstance => k_is)
    (case z_max => k_is)
    (case z_sum => k_is)
    (case z_sorted => k_is)
    (case z_int => k_is)
    (case z_list => k_is)
    (case z_tuple => k_is)
    (case z_repr => k_is)
    (case z_set => k_is)
    (case z_min => k_is)
    (case z_str => k_is)
    (case z_dict => k_is)
    (case z_bool => k_is)
    (case z_ValueError => k_is)
    (case z_range => k_is)
    (case z_enumerate => k_is)
    (case z_zip => k_is)
    (case kit => kernel_rfl)
