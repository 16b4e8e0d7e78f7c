import PyProof.Rows.All
import Wide.All
import OpenK.AllK
import Wide.FinOn
import KE.KExcSuper
import KE.RegKSuper
import KE.KExcIs
import HandS.ForMost
import HandS.Exc
import HandS.ExcOwn
import HandS.ExcInit
import HandS.ExcValue
import HandS.ExcIs
import HandS.ExcField
import HandS.ExcSuper
import HandS.Nested
import HandS.Defaults
import HandS.HeadEnd
import HandS.More
import HandS.WordsExc
import HandS.Head0
import HandS.Head1
import HandS.Head2
import HandS.HeadHook1
import HandS.HeadHook2
import HandS.IsInst
import KE.GoesMore
import HandS.Iter
import HandS.Walk
import HandS.Text
import HandS.Codes
import HandS.Rev
import PyProof.P3Eq
import PyProof.ReprLoop
import PyProof.StrLawsRepr
import HandS.HeadWalk
import PySem.Challenge.RW_saidandasked_k00_names_and_words
set_option Elab.async false
set_option linter.all false
set_option maxRecDepth 100000
set_option maxHeartbeats 4000000
/-! An own error whose __init__ begins by super().__init__('..') and then stores fields: its __init__ as a def of the layer. -/
namespace Sa
open PySem PySem.Spec PyProof.Rows L2 NdefX
section
variable {prog : Program} {w : World} {A : Around} {E : Value → Shared → Prop} {h : Heap} {g : Array GenState} {d : Drawn} {t : Nat} {os : OsState}
variable {nm q : Str} {C N : Addr} {bs bm : List Value} {hdct : Bool} {sn : List Str} {sub : List Value} {ab : Bool} {col : Option Bool} {dd : Option Addr} {k0 k1 k2 k3 k5 : Option Value}
/-- the bound ValueError.__init__ is called -/
theorem sup_call {u e t0 : Addr} {rest : List Value} {Q : Value → Shared → Prop}
    (hC : h.get? C = some (excClassObj nm q C N bs bm hdct sn sub ab col dd k0 k1 k2 k3 k5 "ValueError.__new__")) (he : h.get? e = some (HandSPX.excO C t0)) (hu : h.get? u = some (PySem.W.kxs_mw "ValueError.__init__" e)) (hrest : rest.length ≤ sizeLine)
    (hq : ∀ h' t1, (∀ b o, b ≠ e → h.get? b = some o → h'.get? b = some o) → h'.get? e = some (HandSPX.excO C t1) → Q .none ⟨h', g, d, t, os⟩) :
    wpAny (model prog w) A (call (.ref u) rest) Q E ⟨h, g, d, t, os⟩ := by
  refine wpAny_call (codeAny_of_tree ?_)
  show wpAny _ A.in1 (callAny (.ref u) ⟨rest, []⟩) _ _ _
  simp only [callAny]
  refine wpAny_bind (wpAny_load hu ?_)
  simp only [PySem.W.kxs_mw, show (Value.type "method-wrapper" == Value.type "method" || Value.type "method-wrapper" == Value.type "builtin_function_or_method" || Value.type "method-wrapper" == Value.type "method-wrapper") = true by decide, if_true]
  refine PySem.W.KFB.if_so (by decide) ?_
  refine wpAny_bind (PySem.ESX.check_bound F.excBase_ValueError hC he rfl ?_)
  refine wpAny_bind (wpAny_pure (wpAny_pure ?_))
  refine ⟨Code.quiet_builtin _ (by decide +kernel), codeAny_builtin F.excBase_ValueError.initEntry ?_⟩
  rw [Around.under_plainId F.excBase_ValueError.init.plain _]
  wp_walk
  refine hq _ h.objs.size (fun b o hb ho => ?_) ?_
  · rw [Heap.get?_update_other _ _ (Ne.symm hb)]
    exact Heap.get?_push_of_some _ ho
  · rw [Heap.get?_update_self _ (Heap.get?_push_of_some _ he) rfl]
    rfl
end
end Sa

set_option maxHeartbeats 4000000
namespace Sa
open PySem PySem.Spec PyProof.Rows L2 NdefX
/-- what the written part says of such a class C and its __init__ at f, the words F -/
structure SupK (P : Program) (K : PySem.W.Frag) (C : Addr) (F : NF) (f : Addr) (fd : FuncData) : Prop where
  oex : OexC K C
  iC : PySem.W.findIn K (.ref C) "__init__" = some (some (.ref f))
  tI : PySem.W.typeIn K (.ref f) = some (.type "function")
  lk : ∃ (oc : Value) (od : Option Addr) (doc pm ctv : Value) (an : Option Addr) (osl : Array (Option Value)), fd = PySem.W.fnX F.name F.qual F.params F.body F.scope F.cl .none .none doc pm an (.ref F.c) ctv ∧ K.lookup f = some ⟨oc, od, .func fd, osl⟩
  cd : PySem.W.codeIn K (.ref F.c) F.qual = true
  file : ∃ (ccl : Value) (cdd : Option Addr) (vs : Array Value) (ccs : Array (Option Value)) (file : Str) (tf : Tok), K.lookup F.c = some ⟨ccl, cdd, .fields vs, ccs⟩ ∧ vs[2]? = some (.str file tf) ∧ ((P.main.file : Str) == file) = true
  cell : ∃ (cc : Addr) (a : Value) (b : Option Addr) (c : Array (Option Value)), F.cl = [(("__class__" : Str), cc)] ∧ K.lookup cc = some ⟨a, b, .cell (some (.ref C)), c⟩
  sup : PySem.W.ks_superIn K C C "__init__" = some (some (.builtin "ValueError.__init__"))
  subVE : PySem.W.subIn K (.ref C) (.type "ValueError") = some true
  self : PySem.W.mroIn K C (.ref C) = some true
  third : PySem.W.nsIn K cStatics "thirdparty.any" = some none
section
variable {P : Program} {w : World} {K : PySem.W.Frag} {mg : Str → Option Value} {base : Heap} {CX : CXT} {N ps : List Str} {F : NF} {fd : FuncData} {f C : Addr} {k : Nat} {sp : Sp}
theorem cellsAt_one {cc : Addr} {h : Heap} {H : Hp} (e : F.cl = [(("__class__" : Str), cc)]) (hc : h.IsCell cc (some (.ref C))) (hn : H cc = none) : CellsAt F.cl ["__class__"] [some (.ref C)] h H := by
  have look : ∀ y c, F.cl.lookup y = some c → y = "__class__" ∧ c = cc := fun y c hl => by
    rw [e] at hl
    have hm := PySem.mem_of_lookup hl
    have hm2 := List.mem_singleton.mp hm
    exact ⟨congrArg Prod.fst hm2, congrArg Prod.snd hm2⟩
  refine ⟨rfl, fun y c hl => ?_, fun x y c hx hy => ?_, fun i y hi => ?_⟩
  · obtain ⟨_, rfl⟩ := look y c hl
    exact ⟨hn, _, hc⟩
  · rw [(look x c hx).1, (look y c hy).1]
  · cases i with
    | zero =>
      have ey : ("__class__" : Str) = y := Option.some.inj hi
      subst ey
      refine ⟨cc, by rw [e]; simp, fun v hv => ?_⟩
      have ev : some (V.ref C) = some v := Option.some.inj hv
      cases ev
      exact ⟨.ref C, rfl, hc⟩
    | succ i => simp at hi
/-- THE RULE: its __init__ by the rest of its body -/
theorem fn_super (S : NScope N ps ["__class__"] F.scope) (T : SupK P K C F f fd) (hs : mg "super" = none)
    (hks : F.scope.names.lookup ("super" : Str) = some .globalImplicit) (htop : (P.main.scope.names.lookup ("super" : Str)).isSome = false)
    {ar : Arg} (har : (F.params.posonlyargs ++ F.params.args).head? = some ar) (har2 : ps[0]? = some ar.arg) (len : ∀ vs H Q E, sp vs H Q E → vs.length = ps.length)
    {p0 p1 p2 p3 p4 p5 : Pos} {m : Str} {j : Nat} {rest : List Stmt} (hbody : F.body = .Expr (.Call (.Attribute (.Call (.Name "super" p0) [] [] p1) "__init__" p2) [.Constant (.str m) j p3] [] p4) p5 :: rest)
    (he : ∀ L : Addr, ∃ pl : Sem Bool, eval (.Call (.Attribute (.Call (.Name "super" p0) [] [] p1) "__init__" p2) [.Constant (.str m) j p3] [] p4) (envF F f L) = (do
      let ov ← attributeBase (.Call (.Name "super" p0) [] [] p1) "__init__" (envF F f L) (eval (.Call (.Name "super" p0) [] [] p1) (envF F f L))
      standAt p2.atName
      let (fx, first) ← holding [ov] (getMethod ov "__init__" pl)
      callWith p4 fx first (backTo p4 (starEach [.Constant (.str m) j p3] (envF F f L))) []))
    (hi : ∀ L : Addr, interactive (envF F f L) = false) (hsw : ∀ L : Addr, swapsWith (.Call (.Attribute (.Call (.Name "super" p0) [] [] p1) "__init__" p2) [.Constant (.str m) j p3] [] p4) none p5.line (envF F f L) = pure false)
    (hself : ∀ vs H Q E, sp vs H Q E → ∃ a ys, vs = V.ref a :: ys ∧ H a = some (exo a C none))
    (hrest : ∀ (A : Around) (outer : List Env) (s : Shared) (H : Hp) (vs : List V) (Q : VK) (E : XK), Room k (A.deeper (envF F f s.heap.objs.size)) → sp vs H Q E →
      ∃ t, PSs (ncx CX P w K mg base N F f A outer s H E) rest t ∧ t { nx := fun _ H' => Q .non H', rt := Q } (startF N vs [some (.ref C)]) H) :
    FnOk P w K mg base CX (k + 1) f fd ps sp := by
  refine ⟨len, fun A outer s H args us vs Q E hr e0 hb r hsp => ?_⟩
  obtain ⟨oc, od, doc, pm, ctv, an, osl, rfl, lk⟩ := T.lk
  have hl := len _ _ _ _ hsp
  have KX : K.In s.heap := e0.mod.kin.keeps fun b o e => (e0.bs b o e).1
  have lim : s.heap.NoLimit := e0.mod.nolimit.keeps fun b o e => (e0.bs b o e).1
  obtain ⟨cc, ca, cb, csl, hcl, hcell⟩ := T.cell
  have hcn : H cc = none := (e0.bs cc _ (e0.mod.kin _ _ hcell)).2
  have hC : CellsAt F.cl ["__class__"] [some (.ref C)] s.heap H := cellsAt_one hcl ⟨_, KX _ _ hcell, rfl⟩ hcn
  refine PySem.ks_codeAny_call_defAt (body := F.body) (binds := ps.zip us) hr.depth (KX _ _ lk) rfl lim (PySem.W.codeRec_of KX T.cd) rfl hb S.nocell (fun y hy => S.par _ (List.of_mem_zip hy).1) (fun h₁ hns kp => ?_) S.co S.gen S.kind
  have I : Inv (ncx CX P w K mg base N F f A outer s H E) [] (startF N vs [some (.ref C)]) H { s with heap := h₁, toks := s.toks + (ps.zip us).length } := inv_startN S hr.hd e0 hl r hC hns kp
  obtain ⟨t, ht, hq⟩ := hrest A outer s H vs Q E (hr.deeper _) hsp
  obtain ⟨a, ys, rfl, ea⟩ := hself _ _ _ _ hsp
  have tail : ∀ s', Inv (ncx CX P w K mg base N F f A outer s H E) [] (startF N (.ref a :: ys) [some (.ref C)]) H s' → wpAny (model P w) (A.deeper (envF F f s.heap.objs.size)) (execs rest (envF F f s.heap.objs.size))
      (fun fl s' => CR CX outer P w H s Q E (.ok (.ret (match fl with | .ret v => v | _ => .none))) s') (ncx CX P w K mg base N F f A outer s H E).xe s' := fun s' J => by
    refine wpAny_mono (ht.run [] s' _ H _ J hq) (fun fl s2 hs2 => ?_) fun e s2 hs2 => hs2
    have fin : ∀ {σ' : L2.St} {H' : Hp} {v : V} {u : Value}, Inv (ncx CX P w K mg base N F f A outer s H E) [] σ' H' s2 → L2.RelV v u → Q v H' → CE outer P w H s Q u s2 :=
      fun {σ' H' v u} J rv q => ⟨v, H', J.os, J.bare, J.base, J.hok, rv, q⟩
    cases fl with
    | ret u =>
      obtain ⟨v, σ', H', J, rv, q⟩ := hs2
      exact fin J rv q
    | next =>
      obtain ⟨σ', H', J, q⟩ := hs2
      exact fin (v := V.non) (u := Value.none) J rfl q
    | brk =>
      obtain ⟨_, _, _, q⟩ := hs2
      exact False.elim q
    | cont =>
      obtain ⟨_, _, _, q⟩ := hs2
      exact False.elim q
  have hkc : F.scope.names.lookup ("__class__" : Str) = some .free := S.frk _ (List.mem_singleton.mpr rfl)
  have hka : F.scope.names.lookup ar.arg = some .local := S.par _ (List.mem_of_getElem? har2)
  have hpl : ps.length + 1 ≤ N.length := by
    have q := congrArg List.length S.pre
    rw [List.length_take, List.length_append] at q
    have q2 : (["__class__"] : List Str).length = 1 := rfl
    omega
  have ndP : ps.Nodup := by
    have q := S.nd.sublist (List.take_sublist (ps.length + (["__class__"] : List Str).length) N)
    rw [S.pre] at q
    exact (List.nodup_append.mp q).1
  obtain ⟨ua, us', rfl, rfl⟩ : ∃ ua us', us = ua :: us' ∧ ua = Value.ref a := by
    cases r with
    | cons r0 r1 => exact ⟨_, _, rfl, r0⟩
  have hv : (ps.zip (Value.ref a :: us')).reverse.lookup ar.arg = some (Value.ref a) := zip_look (i := 0) ndP har2 rfl
  obtain ⟨ccl, cdd, fvs, ccs, file, tf, hcode, hvs, hfile⟩ := T.file
  have kin1 : K.In h₁ := fun b o e => kp b o (KX b o e)
  obtain ⟨nmC, qC, NC, bsC, bmC, snC, subC, abC, colC, ddC, k0, k1, k2, k3, k5, hCl, hbm⟩ := T.oex.cls
  have hcls : PySem.W.clsIn K C = some { name := nmC, bases := bsC, mro := .ref C :: bmC, ns := NC, qualname := qC, hasDict := true, slotNames := snC, subclasses := subC, abstract := abC, collection := colC, hasDel := false } := by unfold PySem.W.clsIn; rw [hCl] <;> rfl
  obtain ⟨t1, ho⟩ := exo_at I.hok ea
  obtain ⟨mb, hb1, hb2⟩ := e0.mod.blt
  have gN : h₁.Ns mainGlobals mg := e0.mod.glob.keeps I.bk
  have eb : execs F.body (envF F f s.heap.objs.size) = execs (.Expr (.Call (.Attribute (.Call (.Name "super" p0) [] [] p1) "__init__" p2) [.Constant (.str m) j p3] [] p4) p5 :: rest) (envF F f s.heap.objs.size) := by rw [hbody]
  show PySem.wpAt (model P w) (A.deeper (envF F f s.heap.objs.size)) (.func F.body (envF F f s.heap.objs.size)) (execs F.body (envF F f s.heap.objs.size)) _ _ _
  rw [eb]
  obtain ⟨pl, hev⟩ := he s.heap.objs.size
  refine PySem.ks_wpAt_execs_cons (PySem.ks_wpAt_Expr_any (PySem.ks_wpAt_MethodCall (pl := pl) ?_ hev) (hi _) (hsw _))
  refine PySem.ks_wpAt_super_base (env := envF F f s.heap.objs.size) hks hkc (by decide) rfl (kin1 _ _ lk) rfl har rfl (kin1 _ _ hcode) rfl hvs hfile htop ?_
  refine PySem.W.ks_loadName_global S.kind hks (Calls.loadGlobal_builtin (env := envF F f s.heap.objs.size) gN hs (hb1.keeps I.bk) ((hb2 _ (by decide)).trans PyProof.Rows.Boot.«super») ⟨rfl, ?_⟩)
  refine wpAny_loadName_free S.kind hkc (show F.cl.lookup ("__class__" : Str) = some cc by rw [hcl]; simp) ⟨_, kin1 _ _ hcell, rfl⟩ ?_
  refine wpAny_loadName_local S.kind hka hns hv ?_
  refine PySem.ks_wpAny_isType_cls (kin1 _ _ hCl) rfl ⟨rfl, ?_⟩
  refine PySem.ks_wpAny_call_super (kin1 _ _ hCl) rfl ho rfl (fun c z => nomatch z) (PySem.W.looks_mroIn kin1 T.self) (fun h2 e2 k2 => ?_)
  have I2 := I.kept (t' := s.toks + (ps.zip (Value.ref a :: us')).length) k2
  have kin2 : K.In h2 := fun b o e => k2 b o (kin1 b o e)
  obtain ⟨t2, ho2⟩ := exo_at I2.hok ea
  have J2 : PySem.W.InstAt h2 a { cls := .ref C, dict := none, data := .fields #[.ref t2, .none, .none, .none, .bool false, .none] } C none := ⟨ho2, rfl, rfl, trivial⟩
  refine PySem.W.kxs_getMethod PySem.W.kxs_ValueError e2 (PySem.W.looks_opaque kin2 T.third) (l₀ := .ref C :: bmC) (fun A Q E s k q => wpAny_bind ((PySem.W.looks_clsIn kin2 hcls) A _ E s k (wpAny_pure q))) rfl kin2 ?_
    (J2.type.andThen (PySem.W.looks_subIn kin2 T.subVE)) (PySem.W.ks_ne kin2 J2 hcls) (by decide) ?_
  · have z := T.sup
    unfold PySem.W.ks_superIn at z
    rw [hcls] at z
    exact z
  have I3 := I2.kept (h' := h2.push (PySem.W.kxs_mw "ValueError.__init__" a)) (t' := s.toks + (ps.zip (Value.ref a :: us')).length + 1) (fun b o e => Heap.get?_push_of_some _ e)
  have hmw : (h2.push (PySem.W.kxs_mw "ValueError.__init__" a)).get? h2.objs.size = some (PySem.W.kxs_mw "ValueError.__init__" a) := Heap.get?_push_size h2 rfl
  obtain ⟨t3, ho3⟩ := exo_at I3.hok ea
  have hargs : starEach [.Constant (.str m) j p3] (envF F f s.heap.objs.size) = (false, eval (.Constant (.str m) j p3) (envF F f s.heap.objs.size)) :: starEach [] (envF F f s.heap.objs.size) := rfl
  rw [hargs]
  refine PySem.W.kxs_callWith (i := "ValueError.__init__") (x := a) rfl (Calls.evalArgs_plain ?_)
  show wpAny _ _ (spliced [(false, eval (.Constant (.str m) j p3) (envF F f s.heap.objs.size))]) _ _ _
  refine Calls.spliced_cons (Calls.Constant_str (pos := p3) (k := j) ?_)
  refine Calls.spliced_nil ⟨hmw, ?_⟩
  show wpAny (model P w) _ (call (.ref h2.objs.size) [_]) _ _ _
  have kin3 : K.In (h2.push (PySem.W.kxs_mw "ValueError.__init__" a)) := fun b o e => Heap.get?_push_of_some _ (kin2 b o e)
  refine sup_call (kin3 _ _ hCl) ho3 hmw (by show 1 ≤ sizeLine; rw [sizeLine_eq]; omega) (fun h' t4 k4 e4 => ?_)
  have I4 := I3.write (h' := h') (t' := s.toks + (ps.zip (Value.ref a :: us')).length + 1 + 1) (x := a) (e := a) (o := exo a C none) (by rw [ea]; exact True.intro) (.inl rfl) k4 ⟨_, e4⟩ (exo_ok e4)
  have eu : upd H a (exo a C none) = H := by
    funext b
    by_cases hb : b = a
    · rw [hb, upd_same, ea]
    · rw [upd_ne hb]
  rw [eu] at I4
  exact wpAt_of_wpAny (tail _ I4)
end
end Sa

set_option maxHeartbeats 4000000
namespace Sa
open PySem PySem.Spec PyProof.Rows L2 NdefX
/-- C(e, ..) as a value: a new error of the class C, then its __init__ -/
def tNewO (C : Addr) (sp : Sp) (ta : TA) : TE := fun σ H Q => ta σ H fun vs H1 => vs.length ≤ 1000 ∧ ∀ a, H1 a = none → sp (.ref a :: vs) (upd H1 a (exo a C none)) (fun v H2 => v = .non ∧ Q (.ref a) H2) (fun _ _ _ => False)
section
variable {X : Cx} {e : Expr} {es : List Expr} {ta : TA} {p pos : Pos}
theorem pe_oex {CX : CXT} {x : Str} {C fI : Addr} {k : Nat} {fd : FuncData} {ps : List Str} {sp : Sp} (T : OexC X.K C) (iC : PySem.W.findIn X.K (.ref C) "__init__" = some (some (.ref fI))) (tI : PySem.W.typeIn X.K (.ref fI) = some (.type "function"))
    (F1 : FnOk X.prog X.w X.K X.mg X.base CX k fI fd ps sp) (hr : Room (k + 1) X.A) (hb : Binds X.K fd ps []) (hx : Passes CX X (fun _ _ _ => False)) (hg : Gl X x) (hm : X.mg x = some (.ref C)) (ha : PA X (e :: es) ta)
    (hdb : (x == ("__debug__" : Str)) = false := by decide) (he : starEach (e :: es) X.env = (false, eval e X.env) :: starEach es X.env := by rfl) (hpl : (backTo pos (starEach es X.env)).any (·.1) = false := by rfl) :
    PE X (.Call (.Name x p) (e :: es) [] pos) (tNewO C sp ta) := by
  refine ⟨fun pins s σ H Q I h => ?_⟩
  obtain ⟨nm, q, N, bs, bm, sn, sub, ab, col, dd, k0, k1, k2, k3, k5, hC, hbm⟩ := T.cls
  refine wpAny_Call_Name_kw (ld_glob I hg hm ?_ hdb)
  refine PySem.W.callWith_K (h₀ := X.base) I.ok.mod.kin T.kC (thn (ha.run pos pins s σ H _ I h) fun us s1 ⟨vs, H1, I1, r1, hz, q1⟩ => ⟨I1.kIn, ?_⟩) he hpl
  show wpAny _ _ (call (.ref C) us) _ _ _
  obtain ⟨hp, g, dr, tk, os⟩ := s1
  have hsz : hp.objs.size ≤ hp.objs.size + 1 := Nat.le_succ _
  have hn : H1 (hp.objs.size + 1) = none := I1.hok.fresh hsz
  have hq := q1 (hp.objs.size + 1) hn
  have kk : ∀ b o, hp.get? b = some o → ((hp.push (PySem.W.kdv_tup us)).push (PySem.HandSPX.excO C hp.objs.size)).get? b = some o := fun b o e => Heap.get?_push_of_some _ (Heap.get?_push_of_some _ e)
  have hget : ((hp.push (PySem.W.kdv_tup us)).push (PySem.HandSPX.excO C hp.objs.size)).get? (hp.objs.size + 1) = some (PySem.HandSPX.excO C hp.objs.size) := by heap_get
  have I2 : Inv X pins σ (upd H1 (hp.objs.size + 1) (exo (hp.objs.size + 1) C none)) ⟨(hp.push (PySem.W.kdv_tup us)).push (PySem.HandSPX.excO C hp.objs.size), g, dr, tk, os⟩ :=
    I1.laid (t' := tk) (a := hp.objs.size + 1) (o := exo (hp.objs.size + 1) C none) (h' := (hp.push (PySem.W.kdv_tup us)).push (PySem.HandSPX.excO C hp.objs.size)) kk hsz (exo_ok hget)
  have r2 : Vals (V.ref (hp.objs.size + 1) :: vs) (Value.ref (hp.objs.size + 1) :: us) := .cons rfl r1
  have hl : (Value.ref (hp.objs.size + 1) :: us).length = ps.length := by
    have e := r2.length
    rw [F1.len _ _ _ _ hq] at e
    exact e.symm
  have hus : us.length ≤ sizeLine := by
    rw [← Paired.length r1, sizeLine_eq]
    omega
  have hb2 := hb ⟨(hp.push (PySem.W.kdv_tup us)).push (PySem.HandSPX.excO C hp.objs.size), g, dr, tk, os⟩ (Value.ref (hp.objs.size + 1) :: us) I2.kIn (by rw [List.append_nil]; exact hl)
  rw [List.append_nil] at hb2
  refine wpAny_call (PySem.HandSPX.call_own F.excBase_ValueError (fun Y => PySem.HandSPX.refsVE_contains Y bm hbm) (I1.kIn _ _ hC) (PySem.W.looks_findIn I1.kIn iC) (fun self => PySem.W.bind_fn I1.kIn self tI) hus
    (codeAny_mono (F1.run _ X.stack _ _ ⟨Value.ref (hp.objs.size + 1) :: us, []⟩ (Value.ref (hp.objs.size + 1) :: us) _ _ (fun _ _ _ => False) (hr.make C us []) (I2.env0.make C us []) hb2 r2 hq) fun r s' hq' => ?_))
  cases r with
  | error er => exact hx pins σ _ _ er s' I2 hq'
  | ok fl =>
    cases fl with
    | ret u =>
      obtain ⟨v, H3, J, rv, ev, q3⟩ := I2.after hq'
      subst ev
      exact ⟨rv, .ref (hp.objs.size + 1), H3, J, rfl, q3⟩
    | next => exact False.elim hq'
    | brk => exact False.elim hq'
    | cont => exact False.elim hq'
end
/-! ### what an error says -/
/-- an error of the class C stands at a, tracked: with no dict that is told, or with the fields fs -/
inductive ErrAt (H : Hp) (a C : Addr) : Prop where
  | plain (h : H a = some (ExO (.ref C) a))
  | full {dx : Addr} {fs : List (Str × V)} (h : H a = some (exo a C (some dx))) (hd : H dx = some (exd dx fs))
section
variable {X : Cx} {pins : List (Addr × Obj)} {σ : L2.St} {H : Hp} {s : Shared} {a C dx : Addr} {fs : List (Str × V)}
theorem ErrAt.inst (I : Inv X pins σ H s) (e : ErrAt H a C) : ∃ ox od, PySem.W.InstAt s.heap a ox C od := by
  cases e with
  | plain h =>
    obtain ⟨⟨oe, vs, he, hz, hd, _⟩, _, _⟩ := I.hok a _ h
    refine ⟨oe, none, he, hz.1, by unfold PySem.W.notCls; rw [hd] <;> rfl, ?_⟩
    rw [hz.2] <;> trivial
  | full h hd =>
    obtain ⟨t1, he⟩ := exo_at I.hok h
    obtain ⟨mA, ⟨od, es, ep, ho, hr⟩, _⟩ := exd_at I.hok hd
    exact ⟨_, some od, he, rfl, rfl, ho⟩
/-- isinstance(x, c), x an error -/
def rIsX (K : PySem.W.Frag) : List V → Hp → VK → Prop := fun xs H Q => ∃ (a C : Addr) (c : V) (cv : Value) (b : Bool), xs = [.ref a, c] ∧ ErrAt H a C ∧ ExcC K C ∧ (∀ u, RelV c u → u = cv) ∧ PySem.W.kitOne K (.ref C) cv = some b ∧ Q (.bl b) H
theorem call_isX : CallR X (.builtin "isinstance") (rIsX X.K) := by
  intro pins s σ H xs us Q I r h
  obtain ⟨a, C, c, cv, b, rfl, ea, T, hcv, e, q⟩ := h
  cases r with
  | cons rx rr =>
    cases rr with
    | cons rt rr =>
      cases rr
      cases rx
      have ec := hcv _ rt
      subst ec
      obtain ⟨ox, od, J⟩ := ea.inst I
      have hcl : (PySem.W.clsIn X.K C).isSome = true := by
        obtain ⟨cd, hc, _⟩ := PySem.W.any_some T.hd
        rw [hc] <;> rfl
      exact PySem.W.kia_one (PySem.W.kitx_exc (ox := ox) (od := od) hcl T.hg T.hk T.hs T.ha T.hn T.ht T.hm) I.kIn J e (fun z => nomatch z) fun tk => ⟨.bl b, H, I.kept (t' := tk) fun _ _ z => z, rfl, q⟩
end
/-- x.f, x an error with its fields told -/
def tXat (K : PySem.W.Frag) (f : Str) (te : TE) : TE := fun σ H Q => te σ H fun x H1 => ∃ (a C dx : Addr) (fs : List (Str × V)) (v : V), x = .ref a ∧ H1 a = some (exo a C (some dx)) ∧ H1 dx = some (exd dx fs) ∧ XfC K C ∧ PySem.W.findIn K (.ref C) f = some none ∧ fs.lookup f = some v ∧ Q v H1
theorem pe_xat {X : Cx} {e : Expr} {te : TE} {pos : Pos} {f : Str} (he : PE X e te) (hb : attributeBase e f X.env (eval e X.env) = eval e X.env := by rfl) : PE X (.Attribute e f pos) (tXat X.K f te) := by
  refine ⟨fun pins s σ H Q I h => ?_⟩
  refine attr_of hb (thn (he.run pins s σ H _ I h) fun u s1 hh => ?_)
  obtain ⟨x, H1, I1, rx, a, C, dx, fs, v, ex, ea, ed, T, hno, l, q⟩ := hh
  subst ex
  obtain rfl : u = Value.ref a := rx
  obtain ⟨t1, ho⟩ := exo_at I1.hok ea
  obtain ⟨mA, hns, hr⟩ := exd_at I1.hok ed
  obtain ⟨od, hod, hl⟩ := lookIn_ns hns
  obtain ⟨u, hu, ru⟩ := RelO.some_of (v := v) (o := mA f) (by rw [← l]; exact hr f)
  have J : PySem.W.InstAt s1.heap a { cls := .ref C, dict := some dx, data := .fields #[.ref t1, .none, .none, .none, .bool false, .none] } C (some od) := ⟨ho, rfl, rfl, hod⟩
  exact HandSPX.exc_get I1.kIn J T.ga T.gg T.exC (PySem.W.findObj_own T.hdC hno rfl (by rw [hl, hu])) (handed_of ru) ⟨v, H1, I1.tok _, ru, q⟩
end Sa

set_option maxHeartbeats 4000000
namespace Sa
open PySem PySem.Spec PyProof.Rows L2
/-! ### repr of data: none, bools, ints, texts, lists, tuples, dicts -/
def keyD : Key → PyData
  | .inl i => .int i
  | .inr x => .str x
mutual
inductive Dq (K : PySem.W.Frag) (H : Hp) : V → PyData → Prop
  | non : Dq K H .non .none
  | bl (b : Bool) : Dq K H (.bl b) (.bool b)
  | int (i : Int) : Dq K H (.int i) (.int i)
  | str (x : Str) : Dq K H (.str x) (.str x)
  | lst {a : Addr} {xs : List V} {ds : List PyData} : SqL K H a xs → DqAll K H xs ds → Dq K H (.ref a) (.list ds)
  | tup {a : Addr} {xs : List V} {ds : List PyData} : SqT K H a xs → DqAll K H xs ds → Dq K H (.ref a) (.tuple ds)
  | dct {a : Addr} {kvs : List (Key × V)} {ds : List (PyData × PyData)} : Rd H a (.dK kvs) → DqKv K H kvs ds → Dq K H (.ref a) (.dict ds)
inductive DqAll (K : PySem.W.Frag) (H : Hp) : List V → List PyData → Prop
  | nil : DqAll K H [] []
  | cons {v : V} {vs : List V} {d : PyData} {ds : List PyData} : Dq K H v d → DqAll K H vs ds → DqAll K H (v :: vs) (d :: ds)
inductive DqKv (K : PySem.W.Frag) (H : Hp) : List (Key × V) → List (PyData × PyData) → Prop
  | nil : DqKv K H [] []
  | cons {k : Key} {v : V} {kvs : List (Key × V)} {d : PyData} {ds : List (PyData × PyData)} : Dq K H v d → DqKv K H kvs ds → DqKv K H ((k, v) :: kvs) ((keyD k, d) :: ds)
end
/-- the written part has sys.modules -/
def SysK (K : PySem.W.Frag) : Prop := ∃ o, K.lookup sysModules = some o ∧ o.cls = .type "dict"
theorem key_reads {k : Key} {u : Value} {h : Heap} (e : keyIs k u = true) : Reads h u (keyD k) [] := by
  rcases keyIs_shape e with ⟨i, t, rfl, rfl⟩ | ⟨x, t, rfl, rfl⟩
  · exact Reads.int i t
  · exact Reads.str x t
section
variable {X : Cx} {pins : List (Addr × Obj)} {σ : L2.St} {H : Hp} {s : Shared}
theorem sys_ne (I : Inv X pins σ H s) (S : SysK X.K) {a : Addr} {o : Obj} (ho : s.heap.get? a = some o) (hc : o.cls ≠ .type "dict") : a ≠ sysModules := fun e => by
  obtain ⟨o', h1, h2⟩ := S
  have z := I.kIn _ _ h1
  rw [e, z] at ho
  cases ho
  exact hc h2
mutual
theorem Dq.reads (I : Inv X pins σ H s) (S : SysK X.K) : ∀ (d : PyData) (v : V) (u : Value), Dq X.K H v d → RelV v u → ∃ as, Reads s.heap u d as ∧ sysModules ∉ as
  | .none, _, _, h, r => by
    cases h
    cases r
    exact ⟨_, Reads.none, List.not_mem_nil⟩
  | .bool b, _, _, h, r => by
    cases h
    cases r
    exact ⟨_, Reads.bool b, List.not_mem_nil⟩
  | .int i, _, _, h, r => by
    cases h
    obtain ⟨t, rfl⟩ := r
    exact ⟨_, Reads.int i t, List.not_mem_nil⟩
  | .str x, _, _, h, r => by
    cases h
    obtain ⟨t, rfl⟩ := r
    exact ⟨_, Reads.str x t, List.not_mem_nil⟩
  | .list ds, _, _, h, r => by
    cases h with
    | lst hs ha =>
      cases r
      obtain ⟨its, rv, ⟨o, n, ho, hc, _, hd⟩, _⟩ := I.list hs
      obtain ⟨as, hr, hn⟩ := Dq.readsAll I S ds _ its ha rv
      exact ⟨_, Reads.list ho hc hd hr, fun hm => (List.mem_cons.mp hm).elim (fun e => sys_ne I S ho (by rw [hc]; decide) e.symm) hn⟩
  | .tuple ds, _, _, h, r => by
    cases h with
    | tup hs ha =>
      cases r
      obtain ⟨its, rv, ⟨o, ho, hc, n, hd⟩, _⟩ := I.tuple hs
      obtain ⟨as, hr, hn⟩ := Dq.readsAll I S ds _ its ha rv
      exact ⟨_, Reads.tuple ho hc hd hr, hn⟩
  | .dict ds, _, _, h, r => by
    cases h with
    | @dct a kvs _ hs hk =>
      cases r
      obtain ⟨_, hne, vs, rel, o, es, ep, ho, hx, hd, _, hp, _⟩ := dk_rd I.hok hs
      obtain ⟨as, bs, hr1, hr2, hn1, hn2⟩ := Dq.readsKv I S ds kvs _ _ hk hp rel
      refine ⟨_, Reads.dict ho hx.1 hd hr1 hr2, fun hm => ?_⟩
      rcases List.mem_cons.mp hm with e | hm
      · rw [e] at hne
        simp at hne
      · exact (List.mem_append.mp hm).elim hn1 hn2
theorem Dq.readsAll (I : Inv X pins σ H s) (S : SysK X.K) : ∀ (ds : List PyData) (vs : List V) (us : List Value), DqAll X.K H vs ds → Vals vs us → ∃ as, ReadsAll s.heap us ds as ∧ sysModules ∉ as
  | [], _, _, h, r => by
    cases h
    cases r
    exact ⟨_, ReadsAll.nil, List.not_mem_nil⟩
  | d :: ds, _, _, h, r => by
    cases h with
    | cons h1 h2 =>
      cases r with
      | cons r1 r2 =>
        obtain ⟨as, q1, n1⟩ := Dq.reads I S d _ _ h1 r1
        obtain ⟨bs, q2, n2⟩ := Dq.readsAll I S ds _ _ h2 r2
        exact ⟨_, ReadsAll.cons q1 q2, fun hm => (List.mem_append.mp hm).elim n1 n2⟩
theorem Dq.readsKv (I : Inv X pins σ H s) (S : SysK X.K) : ∀ (ds : List (PyData × PyData)) (kvs : List (Key × V)) (es : List DictEntry) (vs : List (Key × Value)), DqKv X.K H kvs ds → Pairs (mixKind X.prog X.w) es vs → KV kvs vs →
    ∃ as bs, ReadsAll s.heap (es.map (·.key)) (ds.map (·.1)) as ∧ ReadsAll s.heap (es.map (·.val)) (ds.map (·.2)) bs ∧ sysModules ∉ as ∧ sysModules ∉ bs
  | [], _, _, _, h, p, r => by
    cases h
    cases r
    cases p
    exact ⟨_, _, ReadsAll.nil, ReadsAll.nil, List.not_mem_nil, List.not_mem_nil⟩
  | (dk, d) :: ds, _, _, _, h, p, r => by
    cases h with
    | cons h1 h2 =>
      cases r with
      | cons r1 r2 =>
        cases p with
        | cons p1 p2 p3 =>
          obtain ⟨as, bs, q1, q2, n1, n2⟩ := Dq.readsKv I S ds _ _ _ h2 p3 r2
          rename_i k v kvs q vs e es
          have rv : L2.RelV v e.val := by
            rw [p2]
            exact r1.2
          have rk : keyIs k e.key = true := by
            have z : k = q.1 := r1.1
            rw [z]
            exact p1
          obtain ⟨cs, q3, n3⟩ := Dq.reads I S d _ _ h1 rv
          refine ⟨_, _, ReadsAll.cons (key_reads rk) q1, ReadsAll.cons q3 q2, fun hm => (List.mem_append.mp hm).elim (fun z => absurd z List.not_mem_nil) n1, fun hm => (List.mem_append.mp hm).elim n3 n2⟩
end
/-- repr(x), x a list, a tuple, a dict -/
def rRepr (K : PySem.W.Frag) : List V → Hp → VK → Prop := fun xs H Q => ∃ (a : Addr) (d : PyData), xs = [.ref a] ∧ Dq K H (.ref a) d ∧ d.showable = true ∧ d.depth < 60 ∧ d.shown.length ≤ sizeLine ∧ Q (.str d.shown) H
theorem call_reprD (S : SysK X.K) (hg : X.A.guards = some []) (hu : X.A.units + 64 < cLine) : CallR X (.builtin "repr") (rRepr X.K) := by
  intro pins s σ H xs us Q I r h
  obtain ⟨a, d, rfl, hd, h1, h2, h3, q⟩ := h
  cases r with
  | cons rx rr =>
    cases rr
    cases rx
    obtain ⟨as, hr, hn⟩ := Dq.reads I S d _ _ hd rfl
    exact repr_of_reads' hr h1 (fun _ => hn) hg (by omega) (fun _ _ e => e) (fun h' u tk hk => ⟨.str d.shown, H, I.kept (t' := tk) hk, ⟨_, rfl⟩, q⟩) h3
end
end Sa

set_option maxHeartbeats 4000000
/-! Defs that are called where no guard of repr is held: the law itself, and what it calls, may ask repr of data. -/
namespace Sa
open PySem PySem.Spec PyProof.Rows L2
theorem guards_deeper {A : Around} (h : A.guards = some []) (env : Env) : (A.deeper env).guards = some [] := h
/-- a def's promise, kept where no guard is held -/
structure FnG (P : Program) (w : World) (K : PySem.W.Frag) (mg : Str → Option Value) (base : Heap) (CX : CXT) (k : Nat) (f : Addr) (fd : FuncData) (ps : List Str) (sp : Sp) : Prop where
  len : ∀ vs H Q E, sp vs H Q E → vs.length = ps.length
  run : ∀ (A : Around) (outer : List Env) (s : Shared) (H : Hp) (args : Args) (us : List Value) (vs : List V) (Q : VK) (E : XK), A.guards = some [] → Room k A → Env0 P w K mg base A outer s H → BindsTo s fd args (ps.zip us) → Vals vs us → sp vs H Q E →
    codeAny (model P w) A (.call (.ref f) args) (CR CX outer P w H s Q E) s
section
variable {P : Program} {w : World} {K : PySem.W.Frag} {mg : Str → Option Value} {base : Heap} {CX : CXT} {k : Nat} {x qual : Str} {params : Arguments} {body : List Stmt} {scope : Scope} {dvs : List V} {kws : List (Str × V)} {f : Addr} {fd : FuncData} {N ps : List Str} {sp : Sp}
theorem FnG.of (F : FnOk P w K mg base CX k f fd ps sp) : FnG P w K mg base CX k f fd ps sp := ⟨F.len, fun A outer s H args us vs Q E _ hr e0 b r h => F.run A outer s H args us vs Q E hr e0 b r h⟩
theorem funG (F : FunD K x qual params body scope dvs kws f fd) (S : FnScope N ps scope) (len : ∀ vs H Q E, sp vs H Q E → vs.length = ps.length)
    (hbody : ∀ (cdv : Value) (A : Around) (outer : List Env) (s : Shared) (H : Hp) (vs : List V) (Q : VK) (E : XK), A.guards = some [] → Room k (A.deeper (envOfC qual scope s.heap.objs.size f cdv)) → sp vs H Q E →
      ∃ t, PSs (cxOf CX P w K mg base N qual scope f cdv A outer s H E) body t ∧ t { nx := fun _ H' => Q .non H', rt := Q } (start N vs) H) : FnG P w K mg base CX (k + 1) f fd ps sp := by
  obtain ⟨oc, od, dV, kV, doc, pm, an, cdv, ct, osl, rfl, lk, hcd, _, _⟩ := F.ex
  refine ⟨len, fun A outer s H args us vs Q E hg hr e0 hb r hsp => ?_⟩
  have KX : K.In s.heap := e0.mod.kin.keeps fun b o e => (e0.bs b o e).1
  refine codeAny_call_function hr.depth (KX _ _ lk) rfl S.co S.gen rfl (PySem.W.codeRec_of KX hcd) (hb _ _ _ _ ?_)
  refine wpAny_newFunctionEnv_cells S.kind (fun y hy => ?_) fun env he s1 x => ?_
  · rcases S.par y.1 (List.of_mem_zip hy).1 with q | q
    · exact .inl q
    · exact .inr ⟨q, PySem.W.cellsFrom_some _ _ _ (.inl q)⟩
  subst he
  refine ⟨(e0.mod.nolimit.keeps fun b o e => (e0.bs b o e).1).keeps x.toInCall.keep, codeAny_func ?_⟩
  obtain ⟨t, ht, hq⟩ := hbody cdv A outer s H vs Q E hg (hr.deeper _) hsp
  refine wpAny_mono (ht.run [] s1 (start N vs) H _ (inv_start S hr.hd e0 (len _ _ _ _ hsp) r x) hq) (fun fl s' hs => ?_) fun e s' hs => hs
  have fin : ∀ {σ' : L2.St} {H' : Hp} {v : V} {u : Value}, Inv (cxOf CX P w K mg base N qual scope f cdv A outer s H E) [] σ' H' s' → L2.RelV v u → Q v H' → CE outer P w H s Q u s' :=
    fun J rv q => ⟨_, _, J.os, J.bare, J.base, J.hok, rv, q⟩
  cases fl with
  | ret u => exact let ⟨v, σ', H', J, rv, q⟩ := hs; fin J rv q
  | next => exact let ⟨σ', H', J, q⟩ := hs; fin (v := V.non) (u := Value.none) J rfl q
  | brk => exact let ⟨_, _, _, q⟩ := hs; False.elim q
  | cont => exact let ⟨_, _, _, q⟩ := hs; False.elim q
end
/-! ### the law at its call -/
theorem law_callG {P : Program} {w : World} {K : PySem.W.Frag} {mg mb : Str → Option Value} {CX : CXT} {k : Nat} {fa a : Addr} {fd : FuncData} {x : Str} {sp : Sp} {s₁ : Shared} {vs : List Value} {ns : List Int}
    (KX : K.In s₁.heap) (hns : s₁.heap.Ns mainGlobals mg) (hb : s₁.heap.Ns builtinsNs mb) (hbb : ∀ x : Str, x ≠ "__name__" → mb x = bootBuiltins x) (hlim : s₁.heap.NoLimit) (hg : s₁.gens = #[])
    (ha : s₁.heap.get? a = some { cls := .type "list", data := .seq vs.toArray }) (hi : IntsAre vs ns) (hl : ns.length ≤ sizeLine) (hr : Room k callerA)
    (F : ∀ base : Heap, K.In base → base.Ns mainGlobals mg → FnG P w K mg base CX k fa fd [x] sp) (hbind : ∀ (s : Shared) (u : Value), BindsTo s fd ⟨[u], []⟩ [(x, u)])
    (hsp : ∀ H : Hp, Only H → SqL K H a (ns.map V.int) → sp [.ref a] H (fun v _ => v = .bl true) fun _ _ _ => False)
    (hCX : ∀ H e s', CX [] H s₁ (fun _ _ _ => False) e s' → False) :
    codeAny (model P w) callerA (.call (.ref fa) ⟨[.ref a], []⟩) (fun r s' => r = .ok (.ret (.bool true)) ∧ OldK s₁.heap s'.heap ∧ s'.os = s₁.os ∧ AllBare s'.gens) s₁ := by
  have rv := vals_ints hi
  have lenV := hi.length
  -- from an abstract heap in which nothing but the script may be tracked
  have core : ∀ H : Hp, Only H → SqL K H a (ns.map V.int) → HOk P w H s₁.heap → (∀ b, H b ≠ none → b = a) → (H a ≠ none → K.lookup a = none) →
      codeAny (model P w) callerA (.call (.ref fa) ⟨[.ref a], []⟩) (fun r s' => r = .ok (.ret (.bool true)) ∧ OldK s₁.heap s'.heap ∧ s'.os = s₁.os ∧ AllBare s'.gens) s₁ := by
    intro H hO hS hok hA hK
    have base_of : ∀ {b : Addr} {o : Obj}, s₁.heap.get? b = some o → H b = none → (hidT s₁.heap H).get? b = some o := fun e n => hidT_get e n
    have noA : ∀ {b : Addr} {o : Obj} {es : Array DictEntry} {ep : Nat}, s₁.heap.get? b = some o → o.data = .dict es ep → H b = none := fun {b o es ep} e d => by
      cases q : H b with
      | none => rfl
      | some u =>
        have e' : b = a := hA b (by rw [q]; simp)
        subst e'
        rw [ha] at e; cases e
        have d' : Data.seq vs.toArray _ = Data.dict es ep := d
        cases d'
    have nsK : ∀ {b : Addr} {m : Str → Option Value}, s₁.heap.Ns b m → (hidT s₁.heap H).Ns b m := fun {b m} ⟨o, es, ep, e, d, r⟩ => ⟨o, es, ep, base_of e (noA e d), d, r⟩
    have hKb : K.In (hidT s₁.heap H) := fun b o e => base_of (KX b o e) (by
      cases q : H b with
      | none => rfl
      | some u =>
        have e' : b = a := hA b (by rw [q]; simp)
        subst e'
        rw [hK (by rw [q]; simp)] at e; cases e)
    have hM : Mod K mg (hidT s₁.heap H) := ⟨hKb, nsK hns, ⟨mb, nsK hb, hbb⟩, let ⟨mc, h1, h2⟩ := hlim; ⟨mc, nsK h1, h2⟩⟩
    have e0 : Env0 P w K mg (hidT s₁.heap H) callerA [] s₁ H := ⟨rfl, hM, fun b o e => of_hidT e, Nat.le_of_eq (hidT_size _ _), trivial, fun b hb => absurd (show b ∈ ([] : List Addr) from hb) (by simp), hok, .of_eq hg⟩
    refine codeAny_mono ((F _ hKb (nsK hns)).run callerA [] s₁ H ⟨[.ref a], []⟩ [.ref a] [.ref a] _ _ rfl hr e0 (hbind s₁ (.ref a)) (.cons rfl .nil) (hsp H hO hS)) fun r s' h => ?_
    cases r with
    | error e => exact (hCX H e s' h).elim
    | ok fl =>
      cases fl with
      | next => exact False.elim h
      | brk => exact False.elim h
      | cont => exact False.elim h
      | ret u =>
        obtain ⟨v, H', os, bare, un, hok', r', q⟩ := h
        have q' : v = .bl true := q
        subst q'
        obtain rfl : u = Value.bool true := r'
        refine ⟨rfl, OldK.of_keep fun b o e => ?_, os, bare⟩
        cases q : H b with
        | none => exact un.keep b o e q (by intro z; exact absurd (show b ∈ ([] : List Addr) from z) (by simp)) (by simp)
        | some u =>
          rcases hO b with z | ⟨ob, xs, z⟩
          · rw [q] at z; cases z
          · have z2 := un.frzs b ob _ z
            obtain ⟨e1, _⟩ := hok b _ z
            obtain ⟨e2, _⟩ := hok' b _ z2
            rw [e] at e1; cases e1
            exact e2
  cases hk : K.lookup a with
  | some o =>
    -- the script is one of the module's own objects
    have e := KX a o hk
    rw [ha] at e
    cases e
    refine core (fun _ => none) (fun _ => .inl rfl) (.inr ⟨_, vs.toArray, _, hk, rfl, rfl, rfl, by rw [List.size_toArray, lenV]; exact hl, by simpa using rv⟩) (fun b u z => by have z' : (none : Option HO) = some u := z; cases z') (fun b z => absurd rfl z) fun z => absurd rfl z
  | none =>
    refine core (fun b => if b = a then some (.frz { cls := .type "list", data := .seq vs.toArray } (.lst (ns.map V.int))) else none) (fun b => ?_) (.inl (.inr ⟨{ cls := .type "list", data := .seq vs.toArray }, if_pos rfl⟩)) (fun b u z => ?_) (fun b z => ?_) fun _ => hk
    · by_cases hb : b = a
      · exact .inr ⟨_, _, if_pos hb⟩
      · exact .inl (if_neg hb)
    · by_cases hb : b = a
      · have z' := (if_pos hb).symm.trans z
        cases z'
        subst hb
        exact ⟨ha, by rw [List.length_map]; exact hl, vs, _, rv, ha⟩
      · have z' := (if_neg hb).symm.trans z
        cases z'
    · by_cases hb : b = a
      · exact hb
      · exact absurd (if_neg hb) z
/-- the end: from the law as a def that is called where no guard is held -/
theorem walk_ofG {l : PySem.W.OpenLaw} {n k : Nat} {q : Program} {loose : List Str} {XP : (Str → Option Value) → Heap → Prop} {YP : World → Heap → Prop} {d : DefRec} {CX : World → CXT} {x : Str}
    (hn : l.most = some n) (hn2 : n ≤ sizeLine) (hdf : d.params.defaults = []) (hr : Room k callerA)
    (F : ∀ (w : World) (mg : Str → Option Value) (fa : Addr) (h : Heap), YP w h → h.Ns mainGlobals mg → mg d.name = some (.ref fa) →
      ∃ (K : PySem.W.Frag) (fd : FuncData) (sp : Sp), K.In h ∧ (∀ (s : Shared) (u : Value), BindsTo s fd ⟨[u], []⟩ [(x, u)]) ∧
        (∀ (H : Hp) (a : Addr) (ns : List Int), ns.length ≤ n → Only H → SqL K H a (ns.map V.int) → sp [.ref a] H (fun v _ => v = .bl true) fun _ _ _ => False) ∧
        ∀ base : Heap, K.In base → base.Ns mainGlobals mg → FnG l.prog w K mg base (CX w) k fa fd [x] sp)
    (hCX : ∀ (w : World) (H : Hp) (s : Shared) (e : Value) (s' : Shared), CX w [] H s (fun _ _ _ => False) e s' → False) :
    PySem.W.WalkO q loose XP YP l.row.toRowW d [] (fun f vs => PySem.call f vs) := by
  refine Att.attach_call hn hdf fun w s₀ s₁ mg mb fa o pm cd doc a vs ns G Y ho hd hcd hmg hobj hints hlen hg => ?_
  obtain ⟨K, fd, sp, KX, hb, hsp, hF⟩ := F w mg fa _ Y G.T.g hmg
  exact law_callG KX G.T.g G.T.b G.T.builtins G.T.nolimit hg hobj hints (Nat.le_trans hlen hn2) hr hF hb (fun H hO hS => hsp H a ns hlen hO hS) fun H e s' => hCX w H s₁ e s'
end Sa

set_option maxHeartbeats 4000000
/-! What the head tells of a program's top, by names. -/
namespace Sa
open PySem PySem.Spec PyProof.Rows L2 NdefX He
/-- an error class and its __init__, super() first -/
structure SupD where
  cls : Str
  qual : Str
  params : Arguments
  body : List Stmt
  scope : Scope
  flds : List Str
abbrev FnS : Type := Option (Str × Str × Arguments × FuncBody × Scope × Addr × Addr)
def SupD.at_ (K : PySem.W.Frag) (d : SupD) : Addr := ma K (ga K d.cls) "__init__"
def SupD.see (K : PySem.W.Frag) (d : SupD) : FnS := match K.lookup (d.at_ K) with
  | some ⟨_, _, .func fd, _⟩ => some (fd.name, fd.qualname, fd.params, fd.body, fd.scope, fd.globals, fd.builtins)
  | _ => none
def SupD.val (d : SupD) : FnS := some ("__init__", d.qual, d.params, .stmts d.body, d.scope, mainGlobals, builtinsNs)
def SupD.cell (K : PySem.W.Frag) (d : SupD) : Addr := match K.lookup (d.at_ K) with
  | some ⟨_, _, .func fd, _⟩ => (match fd.closure with
    | [(_, c)] => c
    | _ => 0)
  | _ => 0
def SupD.code (K : PySem.W.Frag) (d : SupD) : Addr := match K.lookup (d.at_ K) with
  | some ⟨_, _, .func fd, _⟩ => (match fd.code with
    | .ref c => c
    | _ => 0)
  | _ => 0
def SupD.nf (K : PySem.W.Frag) (d : SupD) : NF := ⟨"__init__", d.qual, d.params, d.body, d.scope, [(("__class__" : Str), d.cell K)], d.code K⟩
/-- a class below ValueError alone, whatever its __init__ -/
def oexB (K : PySem.W.Frag) (C : Addr) : Bool := (match K.lookup C with
  | some ⟨.type "type", _, .cls cd, sl⟩ => (match cd.mro, sl.toList with
    | .ref C' :: bm, [_, _, _, _, some (.builtin n), _] => decide (C' = C) && (decide (n = "ValueError.__new__") && (!cd.hasDel && (cd.hasDict && HandSPX.refsVE bm)))
    | _, _ => false)
  | _ => false) && (decide (PySem.W.findIn K (.ref C) "__setattr__" = some (some (.builtin "object.__setattr__"))) && (decide (PySem.W.subIn K (.ref C) (.type "BaseException") = some true) && (decide (PySem.W.typeIn K (.ref C) = some (.type "type")) && PySem.W.keepIn K (.ref C))))
theorem oexB_ok {K : PySem.W.Frag} {C : Addr} (h : oexB K C = true) : OexC K C := by
  obtain ⟨h1, h⟩ := ba h
  obtain ⟨h2, h⟩ := ba h
  obtain ⟨h3, h⟩ := ba h
  obtain ⟨h4, h5⟩ := ba h
  refine ⟨?_, of_decide_eq_true h2, of_decide_eq_true h3, of_decide_eq_true h4, h5⟩
  split at h1
  · rename_i dd cd sl ho
    split at h1
    · rename_i C' bm k0 k1 k2 k3 n k5 hm hs
      obtain ⟨e1, h1⟩ := ba h1
      obtain ⟨e2, h1⟩ := ba h1
      obtain ⟨e3, h1⟩ := ba h1
      obtain ⟨e4, e5⟩ := ba h1
      have e1 := of_decide_eq_true e1
      have e2 := of_decide_eq_true e2
      subst e1 e2
      obtain ⟨nm, bs, mro, ns, qn, hd, sn, sub, ab, col, del⟩ := cd
      have d3 : del = false := by simpa using e3
      have d4 : hd = true := e4
      dsimp only at hm
      subst hm
      subst d3
      subst d4
      have hsl : sl = #[k0, k1, k2, k3, some (.builtin "ValueError.__new__"), k5] := by
        obtain ⟨l⟩ := sl
        simp only at hs
        rw [hs]
      subst hsl
      exact ⟨_, _, _, _, _, _, _, _, _, _, _, _, _, _, _, ho, e5⟩
    · cases h1
  · cases h1
def excB (K : PySem.W.Frag) (D : Addr) : Bool := decide (PySem.W.findIn K (.ref D) "__getattribute__" = some (some (.builtin "BaseException.__getattribute__"))) && (decide (PySem.W.findIn K (.ref D) "__getattr__" = some none) && (decide (PySem.W.subIn K (.ref D) (.type "BaseException") = some true) && (PySem.W.hasDictIn K D &&
  (decide (PySem.W.findIn K (.ref D) "__class__" = some (some (.builtin "object.__class__"))) && (decide (PySem.W.specialIn K (.builtin "object.__class__") "__get__" = some (some (.builtin "getset_descriptor.__get__"))) && (decide (PySem.W.takesIn K (.builtin "object.__class__") = some true) && decide (PySem.W.mroIn K D (.type "object") = some true)))))))
theorem excB_ok {K : PySem.W.Frag} {D : Addr} (h : excB K D = true) : ExcC K D := by
  obtain ⟨h1, h⟩ := ba h
  obtain ⟨h2, h⟩ := ba h
  obtain ⟨h3, h⟩ := ba h
  obtain ⟨h4, h⟩ := ba h
  obtain ⟨h5, h⟩ := ba h
  obtain ⟨h6, h⟩ := ba h
  obtain ⟨h7, h8⟩ := ba h
  exact ⟨of_decide_eq_true h1, of_decide_eq_true h2, of_decide_eq_true h3, h4, of_decide_eq_true h5, of_decide_eq_true h6, of_decide_eq_true h7, of_decide_eq_true h8⟩
theorem ExcC.xf {K : PySem.W.Frag} {C : Addr} (T : ExcC K C) : XfC K C := ⟨T.hg, T.hk, T.hs, T.hd⟩
def supShape (cl : List (Str × Addr)) (cd dv kv : Value) : Bool := match cl, cd, dv, kv with
  | [(x, _)], .ref _, .none, .none => decide (x = ("__class__" : Str))
  | _, _, _, _ => false
theorem supShape_ok {cl : List (Str × Addr)} {cd dv kv : Value} (h : supShape cl cd dv kv = true) : ∃ cc kc, cl = [(("__class__" : Str), cc)] ∧ cd = .ref kc ∧ dv = .none ∧ kv = .none := by
  unfold supShape at h
  split at h
  · have e := of_decide_eq_true h
    subst e
    exact ⟨_, _, rfl, rfl, rfl, rfl⟩
  · cases h
/-- the file of every code object of the program -/
def theFile : Str := "/claim/cut.py"
def SupD.ok (K : PySem.W.Frag) (d : SupD) : Bool := oexB K (ga K d.cls) && (excB K (ga K d.cls) && (decide (PySem.W.findIn K (.ref (ga K d.cls)) "__init__" = some (some (.ref (d.at_ K)))) && (decide (PySem.W.typeIn K (.ref (d.at_ K)) = some (.type "function")) &&
  (PySem.W.codeIn K (.ref (d.code K)) d.qual && ((match K.lookup (d.code K) with
    | some ⟨_, _, .fields vs, _⟩ => (match (vs[2]? : Option Value) with
      | some (.str f _) => theFile == f
      | _ => false)
    | _ => false) && ((match K.lookup (d.cell K) with
    | some ⟨_, _, .cell (some (.ref c)), _⟩ => decide (c = ga K d.cls)
    | _ => false) && ((match K.lookup (d.at_ K) with
    | some ⟨_, _, .func fd, _⟩ => supShape fd.closure fd.code fd.defaults fd.kwdefaults
    | _ => false) && (decide (PySem.W.ks_superIn K (ga K d.cls) (ga K d.cls) "__init__" = some (some (.builtin "ValueError.__init__"))) && (decide (PySem.W.subIn K (.ref (ga K d.cls)) (.type "ValueError") = some true) && (decide (PySem.W.mroIn K (ga K d.cls) (.ref (ga K d.cls)) = some true) &&
    (decide (PySem.W.nsIn K cStatics "thirdparty.any" = some none) && d.flds.all fun f => decide (PySem.W.findIn K (.ref (ga K d.cls)) f = some none))))))))))))
theorem SupD.supK {P : Program} {K : PySem.W.Frag} {d : SupD} (hf : P.main.file = theFile) (e : d.see K = d.val) (h : d.ok K = true) :
    (∃ fd, SupK P K (ga K d.cls) (d.nf K) (d.at_ K) fd) ∧ ExcC K (ga K d.cls) ∧ ∀ f ∈ d.flds, PySem.W.findIn K (.ref (ga K d.cls)) f = some none := by
  obtain ⟨h1, h⟩ := ba h
  obtain ⟨h2, h⟩ := ba h
  obtain ⟨h3, h⟩ := ba h
  obtain ⟨h4, h⟩ := ba h
  obtain ⟨h5, h⟩ := ba h
  obtain ⟨h6, h⟩ := ba h
  obtain ⟨h7, h⟩ := ba h
  obtain ⟨h8, h⟩ := ba h
  obtain ⟨h9, h⟩ := ba h
  obtain ⟨h10, h⟩ := ba h
  obtain ⟨h11, h⟩ := ba h
  obtain ⟨h12, h13⟩ := ba h
  refine ⟨?_, excB_ok h2, fun f hfm => of_decide_eq_true (List.all_eq_true.mp h13 f hfm)⟩
  have hcode : ∃ (ccl : Value) (cdd : Option Addr) (vs : Array Value) (ccs : Array (Option Value)) (file : Str) (tf : Tok), K.lookup (d.code K) = some ⟨ccl, cdd, .fields vs, ccs⟩ ∧ vs[2]? = some (.str file tf) ∧ ((P.main.file : Str) == file) = true := by
    split at h6
    · rename_i ccl cdd vs ccs ho
      split at h6
      · rename_i f t hv
        exact ⟨ccl, cdd, vs, ccs, f, t, ho, hv, by rw [hf]; exact h6⟩
      · cases h6
    · cases h6
  have hcell : ∃ (cc : Addr) (a : Value) (b : Option Addr) (c : Array (Option Value)), [(("__class__" : Str), d.cell K)] = [(("__class__" : Str), cc)] ∧ K.lookup cc = some ⟨a, b, .cell (some (.ref (ga K d.cls))), c⟩ := by
    split at h7
    · rename_i a b c sl ho
      have z := of_decide_eq_true h7
      subst z
      exact ⟨_, a, b, sl, rfl, ho⟩
    · cases h7
  have e0 : (match K.lookup (d.at_ K) with
    | some ⟨_, _, .func fd, _⟩ => some (fd.name, fd.qualname, fd.params, fd.body, fd.scope, fd.globals, fd.builtins)
    | _ => none) = (some ("__init__", d.qual, d.params, .stmts d.body, d.scope, mainGlobals, builtinsNs) : FnS) := e
  have hc : (match K.lookup (d.at_ K) with
    | some ⟨_, _, .func fd, _⟩ => (match fd.closure with
      | [(_, c)] => c
      | _ => 0)
    | _ => 0) = d.cell K := rfl
  have hk : (match K.lookup (d.at_ K) with
    | some ⟨_, _, .func fd, _⟩ => (match fd.code with
      | .ref c => c
      | _ => 0)
    | _ => 0) = d.code K := rfl
  cases q : K.lookup (d.at_ K) with
  | none =>
    rw [q] at e0
    cases e0
  | some o =>
    obtain ⟨oc, od, dt, osl⟩ := o
    rw [q] at e0 h8 hc hk
    cases dt with
    | func fd =>
      obtain ⟨n1, n2, n3, n4, n5, n6, n7, n8, n9, n10, n11, n12, n13, n14, n15⟩ := fd
      have e2 : (some (n1, n2, n3, n4, n5, n6, n15) : FnS) = (some (("__init__" : Str), d.qual, d.params, FuncBody.stmts d.body, d.scope, mainGlobals, builtinsNs) : FnS) := e0
      simp only [Option.some.injEq, Prod.mk.injEq] at e2
      obtain ⟨g1, g2, g3, g4, g5, g6, g7⟩ := e2
      subst g1 g2 g3 g4 g5 g6 g7
      have h8' : supShape n7 n13 n8 n9 = true := h8
      obtain ⟨cc, kc, y1, y2, y3, y4⟩ := supShape_ok h8'
      subst y1 y2 y3 y4
      have hc' : cc = d.cell K := hc
      have hk' : kc = d.code K := hk
      refine ⟨_, oexB_ok h1, of_decide_eq_true h3, of_decide_eq_true h4, ⟨oc, od, n10, n11, n14, n12, osl, rfl, ?_⟩, h5, hcode, hcell, of_decide_eq_true h9, of_decide_eq_true h10, of_decide_eq_true h11, of_decide_eq_true h12⟩
      rw [q]
      show some _ = some _
      unfold SupD.nf
      rw [← hc', ← hk']
    | _ => cases e0
end Sa

set_option maxHeartbeats 4000000
namespace Sa
open PySem PySem.Spec PyProof.Rows L2 NdefX He
/-! ### the Hook -/
structure Sx where
  glos : List Str
  frees : List Str
  defs : List DefD
  sups : List SupD
  chk : PySem.W.Frag → Bool
abbrev AlS : Type := Bool × List FnW × List FnS
def sysB (K : PySem.W.Frag) : Bool := match K.lookup sysModules with
  | some ⟨.type "dict", _, _, _⟩ => true
  | _ => false
theorem sysB_ok {K : PySem.W.Frag} (h : sysB K = true) : SysK K := by
  unfold sysB at h
  split at h
  · rename_i a b c ho
    exact ⟨_, ho, rfl⟩
  · cases h
def obsS (sp : Sx) (K : PySem.W.Frag) : AlS := ((sp.glos.all fun x => (Fa.glo x).ok K) && ((sp.frees.all fun x => (Fa.free x).ok K) && ((sp.defs.all fun d => d.ok K) && ((sp.sups.all fun d => d.ok K) && (sysB K && sp.chk K)))), sp.defs.map fun d => fnW K d.at_, sp.sups.map fun d => d.see K)
def valS (sp : Sx) : AlS := (true, sp.defs.map DefD.val, sp.sups.map SupD.val)
def asS (g : Addr → Option Obj) (n : Nat) : List Addr := asD g n ++ [cStatics, sysModules]
def obsSG (n : Nat) (sp : Sx) (g : Addr → Option Obj) : AlS := obsS sp (frG g (asS g n))
def hookS (n : Nat) (sp : Sx) : PySem.W.Hook where
  α := AlS
  obs := fun s => obsSG n sp s.heap.get?
  val := fun _ => valS sp
  says := fun _ h => ∃ K : PySem.W.Frag, K.In h ∧ obsS sp K = valS sp
  of := fun _ _ e => ⟨_, frG_in, e⟩
  keeps := fun _ _ _ ⟨K, hK, c⟩ k => ⟨K, PySem.W.Frag.In.keeps hK k, c⟩
theorem obsSG_eq {n : Nat} {sp : Sx} {g : Addr → Option Obj} {s : Shared} (h : ∀ a, g a = s.heap.get? a) : obsSG n sp g = (hookS n sp).obs s := by
  have e : g = s.heap.get? := funext h
  rw [e] <;> rfl
def obS (n : Nat) (A : Sx) (s : PySem.W.SharedT) : AlS := obsSG n A (HandSHeadRun.getT s)
theorem obS_eq (n : Nat) (A : Sx) (s : PySem.W.SharedT) : obS n A s = (hookS n A).obs s.abs := obsSG_eq (HandSHeadRun.getT_eq s)
/-- two lists of facts, each asked by a run of its own -/
def hookP (n : Nat) (A B : Sx) : PySem.W.Hook where
  α := AlS × AlS
  obs := fun s => (obsSG n A s.heap.get?, obsSG n B s.heap.get?)
  val := fun _ => (valS A, valS B)
  says := fun _ h => ∃ K : PySem.W.Frag, K.In h ∧ obsS A K = valS A ∧ obsS B K = valS B
  of := fun _ _ e => ⟨_, frG_in, congrArg Prod.fst e, congrArg Prod.snd e⟩
  keeps := fun _ _ _ ⟨K, hK, c⟩ k => ⟨K, PySem.W.Frag.In.keeps hK k, c⟩
def obP (n : Nat) (A B : Sx) (s : PySem.W.SharedT) : AlS × AlS := (obsSG n A (HandSHeadRun.getT s), obsSG n B (HandSHeadRun.getT s))
theorem obP_eq (n : Nat) (A B : Sx) (s : PySem.W.SharedT) : obP n A B s = (hookP n A B).obs s.abs := by
  have e : HandSHeadRun.getT s = s.abs.heap.get? := funext (HandSHeadRun.getT_eq s)
  show (obsSG n A (HandSHeadRun.getT s), obsSG n B (HandSHeadRun.getT s)) = _
  rw [e] <;> rfl
noncomputable abbrev endQ (r : PySem.W.OpenRow) (M : Nat) (w : World) (os : OsState) : Option PySem.W.SharedT := HandSHeadRun.endF (HandSHeadRun.stepQ (HandSHeadRun.denQ HandSHeadRun.tabQ) r.prog w) M r.prog w os
/-- the head's equation of three runs -/
theorem run_split {r : PySem.W.OpenRow} {q : Program} {n M : Nat} {A B : Sx} {loose : List PySem.Str} {w : World}
    (h1 : ∀ os : OsState, (endQ r M w os).map (fun s => (HandSHeadRun.looksF r.prog (PySem.W.boot_heap w.params) s.abs, HandSHeadRun.seenQ q loose (importedModules r.prog.main.body) (fun s => PySem.W.xlAt q [] s && PySem.W.recOk r.toRowW.records s) s.abs)) = some (true, PySem.W.openGood q loose))
    (h2 : ∀ os : OsState, (endQ r M w os).map (fun s => obsSG n A (HandSHeadRun.getT s)) = some (valS A))
    (h3 : ∀ os : OsState, (endQ r M w os).map (fun s => obsSG n B (HandSHeadRun.getT s)) = some (valS B)) : HandSHeadRun.RunEq r q (hookP n A B) (obP n A B) M loose w := by
  intro os
  have a1 := h1 os
  have a2 := h2 os
  have a3 := h3 os
  show (endQ r M w os).map _ = _
  cases e : endQ r M w os with
  | none =>
    rw [e] at a1
    cases a1
  | some s =>
    rw [e] at a1 a2 a3
    obtain ⟨b0, b1⟩ := Prod.mk.inj (Option.some.inj a1)
    have b2 : obsSG n A (HandSHeadRun.getT s) = valS A := Option.some.inj a2
    have b3 : obsSG n B (HandSHeadRun.getT s) = valS B := Option.some.inj a3
    exact congrArg some (Prod.ext b0 (Prod.ext b1 (Prod.ext b2 b3)))
/-- what stands behind the top -/
structure Tx (sp : Sx) (K : PySem.W.Frag) (mg : Str → Option Value) : Prop where
  at_ : ∃ h : Heap, K.In h ∧ h.Ns mainGlobals mg
  c : obsS sp K = valS sp
def mkD (x : Str) (st : Stmt) : DefD := ⟨(x, none), x, x, defArgs st, defBody st, defScope st, [], []⟩
section
variable {sp : Sx} {K : PySem.W.Frag} {mg : Str → Option Value}
theorem Tx.all (T : Tx sp K mg) : ((sp.glos.all fun x => (Fa.glo x).ok K) = true ∧ (sp.frees.all fun x => (Fa.free x).ok K) = true) ∧ ((sp.defs.all fun d => d.ok K) = true ∧ (sp.sups.all fun d => d.ok K) = true) ∧ (sysB K = true ∧ sp.chk K = true) := by
  obtain ⟨h1, h⟩ := ba (congrArg (fun z : AlS => z.1) T.c)
  obtain ⟨h2, h⟩ := ba h
  obtain ⟨h3, h⟩ := ba h
  obtain ⟨h4, h⟩ := ba h
  obtain ⟨h5, h6⟩ := ba h
  exact ⟨⟨h1, h2⟩, ⟨h3, h4⟩, h5, h6⟩
theorem Tx.glo (T : Tx sp K mg) (x : Str) (h : x ∈ sp.glos := by decide +kernel) : mg x = some (.ref (ga K x)) := by
  obtain ⟨_, X, G⟩ := T.at_
  exact glo_ok X G (List.all_eq_true.mp T.all.1.1 x h)
theorem Tx.free (T : Tx sp K mg) (x : Str) (h : x ∈ sp.frees := by decide +kernel) : mg x = none := by
  obtain ⟨_, X, G⟩ := T.at_
  exact free_ok X G (List.all_eq_true.mp T.all.1.2 x h)
theorem Tx.sys (T : Tx sp K mg) : SysK K := sysB_ok T.all.2.2.1
theorem Tx.chk (T : Tx sp K mg) : sp.chk K = true := T.all.2.2.2
theorem Tx.def_ (T : Tx sp K mg) (i : Nat) {x : Str} {st : Stmt} (h : sp.defs[i]? = some (mkD x st)) : ∃ fd, FunD K x x (defArgs st) (defBody st) (defScope st) [] [] (ga K x) fd := by
  have e : sp.defs.map (fun d => fnW K d.at_) = sp.defs.map DefD.val := congrArg (fun z : AlS => z.2.1) T.c
  have e2 : (sp.defs.map fun d => fnW K d.at_)[i]? = (sp.defs.map DefD.val)[i]? := by rw [e]
  rw [List.getElem?_map, List.getElem?_map, h] at e2
  exact DefD.funD (d := mkD x st) (Option.some.inj e2) (List.all_eq_true.mp T.all.2.1.1 _ (List.mem_of_getElem? h))
theorem Tx.sup (T : Tx sp K mg) (i : Nat) {P : Program} {d : SupD} (hf : P.main.file = theFile) (h : sp.sups[i]? = some d) :
    (∃ fd, SupK P K (ga K d.cls) (d.nf K) (d.at_ K) fd) ∧ ExcC K (ga K d.cls) ∧ ∀ f ∈ d.flds, PySem.W.findIn K (.ref (ga K d.cls)) f = some none := by
  have e : sp.sups.map (fun d => d.see K) = sp.sups.map SupD.val := congrArg (fun z : AlS => z.2.2) T.c
  have e2 : (sp.sups.map fun d => d.see K)[i]? = (sp.sups.map SupD.val)[i]? := by rw [e]
  rw [List.getElem?_map, List.getElem?_map, h] at e2
  exact SupD.supK hf (Option.some.inj e2) (List.all_eq_true.mp T.all.2.1.2 _ (List.mem_of_getElem? h))
end
/-! ### a def by its promise -/
structure Cal (P : Program) (w : World) (K : PySem.W.Frag) (mg : Str → Option Value) (base : Heap) (x : Str) (k : Nat) (ps : List Str) (sp : Sp) : Prop where
  ok : ∃ fd, FnOk P w K mg base (L2.CX P w) k (ga K x) fd ps sp ∧ Binds K fd ps [] ∧ ∃ oc od osl, K.lookup (ga K x) = some ⟨oc, od, .func fd, osl⟩
  kp : PySem.W.keepIn K (.ref (ga K x)) = true
  at_ : mg x = some (.ref (ga K x))
theorem FunD.at_ {K : PySem.W.Frag} {x qual : Str} {params : Arguments} {body : List Stmt} {scope : Scope} {dvs : List V} {kws : List (Str × V)} {f : Addr} {fd : FuncData} (F : FunD K x qual params body scope dvs kws f fd) : ∃ oc od osl, K.lookup f = some ⟨oc, od, .func fd, osl⟩ := by
  obtain ⟨oc, od, _, _, _, _, _, _, _, osl, _, lk, _⟩ := F.ex
  exact ⟨oc, od, osl, lk⟩
/-- .. where no guard of repr is held -/
structure CalG (P : Program) (w : World) (K : PySem.W.Frag) (mg : Str → Option Value) (base : Heap) (x : Str) (k : Nat) (ps : List Str) (sp : Sp) : Prop where
  ok : ∃ fd, FnG P w K mg base (L2.CX P w) k (ga K x) fd ps sp ∧ ∀ (s : Shared) (us : List Value), us.length = ps.length → BindsTo s fd ⟨us, []⟩ (ps.zip us)
  kp : PySem.W.keepIn K (.ref (ga K x)) = true
  at_ : mg x = some (.ref (ga K x))
section
variable {P : Program} {w : World} {K : PySem.W.Frag} {mg : Str → Option Value} {base : Heap} {sx : Sx} {x : Str} {st : Stmt} {N ps : List Str} {k : Nat} {sp : Sp}
theorem Tx.cal (T : Tx sx K mg) (i : Nat) (hd : sx.defs[i]? = some (mkD x st)) (hx : x ∈ sx.glos) (S : FnScope N ps (defScope st)) (len : ∀ vs H Q E, sp vs H Q E → vs.length = ps.length)
    (hbind : ∀ (kV doc pm : Value) (an : Option Addr) (cdv ct : Value) (us : List Value), us.length = ps.length → bindArgs (PySem.W.fnOf x x (defArgs st) (defBody st) (defScope st) .none kV doc pm an cdv ct) ⟨us, []⟩ = pure (ps.zip us))
    (hbody : ∀ (cdv : Value) (A : Around) (outer : List Env) (s : Shared) (H : Hp) (vs : List V) (Q : VK) (E : XK), Room k (A.deeper (envOfC x (defScope st) s.heap.objs.size (ga K x) cdv)) → sp vs H Q E →
      ∃ t, PSs (cxOf (L2.CX P w) P w K mg base N x (defScope st) (ga K x) cdv A outer s H E).nox (defBody st) t ∧ t { nx := fun _ H' => Q .non H', rt := Q } (start N vs) H) : Cal P w K mg base x (k + 1) ps sp := by
  obtain ⟨fd, F⟩ := T.def_ i hd
  refine ⟨⟨fd, F.ok S len fun cdv A outer s H vs Q E hr h => ?_, F.bindsN hbind, FunD.at_ F⟩, F.kp, T.glo x hx⟩
  obtain ⟨t, h1, h2⟩ := hbody cdv A outer s H vs Q E hr h
  exact ⟨t, h1.nox, h2⟩
/-- .. that may raise -/
theorem Tx.calX (T : Tx sx K mg) (i : Nat) (hd : sx.defs[i]? = some (mkD x st)) (hx : x ∈ sx.glos) (S : FnScope N ps (defScope st)) (len : ∀ vs H Q E, sp vs H Q E → vs.length = ps.length)
    (hbind : ∀ (kV doc pm : Value) (an : Option Addr) (cdv ct : Value) (us : List Value), us.length = ps.length → bindArgs (PySem.W.fnOf x x (defArgs st) (defBody st) (defScope st) .none kV doc pm an cdv ct) ⟨us, []⟩ = pure (ps.zip us))
    (hbody : ∀ (cdv : Value) (A : Around) (outer : List Env) (s : Shared) (H : Hp) (vs : List V) (Q : VK) (E : XK), Room k (A.deeper (envOfC x (defScope st) s.heap.objs.size (ga K x) cdv)) → sp vs H Q E →
      ∃ t, PSs (cxOf (L2.CX P w) P w K mg base N x (defScope st) (ga K x) cdv A outer s H E) (defBody st) t ∧ t { nx := fun _ H' => Q .non H', rt := Q } (start N vs) H) : Cal P w K mg base x (k + 1) ps sp := by
  obtain ⟨fd, F⟩ := T.def_ i hd
  exact ⟨⟨fd, F.ok S len hbody, F.bindsN hbind, FunD.at_ F⟩, F.kp, T.glo x hx⟩
theorem funG_nox {f : Addr} {fd : FuncData} {qual : Str} (F : FunD K x qual (defArgs st) (defBody st) (defScope st) [] [] f fd) (S : FnScope N ps (defScope st)) (len : ∀ vs H Q E, sp vs H Q E → vs.length = ps.length)
    (hbody : ∀ (cdv : Value) (A : Around) (outer : List Env) (s : Shared) (H : Hp) (vs : List V) (Q : VK) (E : XK), A.guards = some [] → Room k (A.deeper (envOfC qual (defScope st) s.heap.objs.size f cdv)) → sp vs H Q E →
      ∃ t, PSs (cxOf (L2.CX P w) P w K mg base N qual (defScope st) f cdv A outer s H E).nox (defBody st) t ∧ t { nx := fun _ H' => Q .non H', rt := Q } (start N vs) H) : FnG P w K mg base (L2.CX P w) (k + 1) f fd ps sp := by
  refine funG F S len fun cdv A outer s H vs Q E hg hr h => ?_
  obtain ⟨t, h1, h2⟩ := hbody cdv A outer s H vs Q E hg hr h
  exact ⟨t, h1.nox, h2⟩
theorem Tx.calG (T : Tx sx K mg) (i : Nat) (hd : sx.defs[i]? = some (mkD x st)) (hx : x ∈ sx.glos) (S : FnScope N ps (defScope st)) (len : ∀ vs H Q E, sp vs H Q E → vs.length = ps.length)
    (hbind : ∀ (kV doc pm : Value) (an : Option Addr) (cdv ct : Value) (us : List Value), us.length = ps.length → bindArgs (PySem.W.fnOf x x (defArgs st) (defBody st) (defScope st) .none kV doc pm an cdv ct) ⟨us, []⟩ = pure (ps.zip us))
    (hbody : ∀ (cdv : Value) (A : Around) (outer : List Env) (s : Shared) (H : Hp) (vs : List V) (Q : VK) (E : XK), A.guards = some [] → Room k (A.deeper (envOfC x (defScope st) s.heap.objs.size (ga K x) cdv)) → sp vs H Q E →
      ∃ t, PSs (cxOf (L2.CX P w) P w K mg base N x (defScope st) (ga K x) cdv A outer s H E).nox (defBody st) t ∧ t { nx := fun _ H' => Q .non H', rt := Q } (start N vs) H) : CalG P w K mg base x (k + 1) ps sp := by
  obtain ⟨fd, F⟩ := T.def_ i hd
  refine ⟨⟨fd, funG F S len fun cdv A outer s H vs Q E hg hr h => ?_, FunD.bindsA F hbind⟩, F.kp, T.glo x hx⟩
  obtain ⟨t, h1, h2⟩ := hbody cdv A outer s H vs Q E hg hr h
  exact ⟨t, h1.nox, h2⟩
end
section
variable {X : Cx} {x : Str} {j k : Nat} {ps : List Str} {sp : Sp} {p pos : Pos} {e : Expr} {es : List Expr} {t : TA}
theorem pe_cal (C : Cal X.prog X.w X.K X.mg X.base x k ps sp) (hr : Room j X.A) (ha : PA X (e :: es) t) (hk : k ≤ j := by decide) (hg : Gl X x := by rfl)
    (hdb : (x == ("__debug__" : Str)) = false := by decide) (he : starEach (e :: es) X.env = (false, eval e X.env) :: starEach es X.env := by rfl) (hpl : (backTo pos (starEach es X.env)).any (·.1) = false := by rfl) :
    PE X (.Call (.Name x p) (e :: es) [] pos) (tCall sp [] E0 t) := by
  obtain ⟨fd, F, b, _⟩ := C.ok
  exact pe_call F (hr.mono hk) hg C.at_ C.kp b .nil passL ha hdb he hpl
theorem pe_cal0 (C : Cal X.prog X.w X.K X.mg X.base x k ps sp) (hr : Room j X.A) (hk : k ≤ j := by decide) (hg : Gl X x := by rfl) (hdb : (x == ("__debug__" : Str)) = false := by decide) :
    PE X (.Call (.Name x p) [] [] pos) (tCall sp [] E0 tNil) := by
  obtain ⟨fd, F, b, _⟩ := C.ok
  exact pe_call0 F (hr.mono hk) hg C.at_ C.kp b .nil passL hdb
end
end Sa

set_option maxHeartbeats 4000000
namespace K00
open PySem PySem.Spec PyProof.Rows L2 He Sa
abbrev theP : Program := PySem.Challenge.pw_saidandasked_k00_names_and_words
def topS (i : Nat) : Stmt := PySem.Challenge.pw_saidandasked_k00_names_and_words.main.body.getD i (.Pass ⟨0, 0, 0, 0⟩)
abbrev sis_name : Stmt := topS 7
abbrev sis_text : Stmt := topS 8
abbrev swords_of : Stmt := topS 9
abbrev sbegun : Stmt := topS 11
abbrev smixed : Stmt := topS 12
abbrev stake : Stmt := topS 13
abbrev spick : Stmt := topS 14
abbrev skept : Stmt := topS 15
abbrev sany_name : Stmt := topS 16
abbrev sinner : Stmt := topS 17
abbrev scut : Stmt := topS 18
abbrev spiece : Stmt := topS 19
abbrev sis_told_name : Stmt := topS 20
abbrev snames_right : Stmt := topS 21
abbrev slaw : Stmt := topS 22
abbrev iBadText : Stmt := inClass (topS 2) 0
def glos0 : List Str := ["PageError", "BadText", "is_name", "is_text", "words_of", "_law_begun", "_law_mixed", "_law_take", "_law_pick", "_law_kept", "_law_any_name", "_law_inner", "_law_cut", "_law_piece", "_law_is_told_name", "_law_names_right", "law", "KEPT"]
def glos : List Str := glos0
def frees : List Str := ["ValueError", "abs", "all", "enumerate", "int", "isinstance", "len", "min", "range", "repr", "str", "super", "tuple"]
def defs : List DefD := [mkD "is_name" sis_name, mkD "is_text" sis_text, mkD "words_of" swords_of, mkD "_law_begun" sbegun, mkD "_law_mixed" smixed, mkD "_law_take" stake, mkD "_law_pick" spick, mkD "_law_kept" skept, mkD "_law_any_name" sany_name, mkD "_law_inner" sinner, mkD "_law_cut" scut, mkD "_law_piece" spiece, mkD "_law_is_told_name" sis_told_name, mkD "_law_names_right" snames_right, mkD "law" slaw]
def sups : List SupD := [⟨"BadText", "BadText.__init__", defArgs iBadText, defBody iBadText, defScope iBadText, ["line", "column", "wanted"]⟩]
-- places of defs: is_name=0 is_text=1 words_of=2 begun=3 mixed=4 take=5 pick=6 kept=7 any_name=8 inner=9 cut=10 piece=11 is_told_name=12 names_right=13 law=14
-- places of sups: BadText=0
def loose0 : List PySem.Str := ["PageError", "BadText", "is_name", "is_text", "words_of", "_law_begun", "_law_mixed", "_law_take", "_law_pick", "_law_kept", "_law_any_name", "_law_inner", "_law_cut", "_law_piece", "_law_is_told_name", "_law_names_right", "KEPT", "SMALL", "PIECES"]
def loose : List PySem.Str := loose0
def lawAt : Nat := 22
def keptL : List Str := ["answer", "ask", "call", "clause", "copy", "document", "draw", "false", "give", "house", "inner", "law", "never", "node", "outer", "program", "state", "true", "wait"]
def smallS : Str := "abcdefghijklmnopqrstuvwxyz"
def piecesS : Str := "abcdefghijklmnopqrstuvwxyzABCDEFGHIJKLMNOPQRSTUVWXYZ0123456789_"
def chk (K : PySem.W.Frag) : Bool := (Fa.str "SMALL" smallS).ok K && ((Fa.str "PIECES" piecesS).ok K && (tupB K "KEPT" (keptL.map Dv.str) && (Fa.exm "BadText" "PageError" true).ok K))
def sx : Sx := ⟨glos, frees, defs, sups, chk⟩
end K00

set_option maxHeartbeats 0
namespace K00
open PySem PySem.Spec PyProof.Rows L2 He Sa
abbrev R : PySem.W.OpenRow := PySem.W.OpenLaw.row PySem.Challenge.rw_saidandasked_k00_names_and_words
theorem run (w : World) : HandSHeadRun.RunEq R (PySem.W.view R.prog [lawAt]) (hookS 4 sx) (obS 4 sx) 20000 loose w := by
  intro os
  kernel_rfl
end K00

set_option maxHeartbeats 4000000
/-! The source of draws: a dict of four fields. -/
namespace Sa
open PySem PySem.Spec PyProof.Rows L2
def dk (aw ac : Addr) (rest turn : Int) : List (Key × V) := [(Sum.inr "wide", .ref aw), (Sum.inr "cells", .ref ac), (Sum.inr "rest", .int rest), (Sum.inr "turn", .int turn)]
section
variable {aw ac : Addr} {r t u : Int}
theorem dk_wide : valV (dk aw ac r t) (Sum.inr "wide") = some (.ref aw) := by kernel_rfl
theorem dk_cells : valV (dk aw ac r t) (Sum.inr "cells") = some (.ref ac) := by kernel_rfl
theorem dk_rest : valV (dk aw ac r t) (Sum.inr "rest") = some (.int r) := by kernel_rfl
theorem dk_turn : valV (dk aw ac r t) (Sum.inr "turn") = some (.int t) := by kernel_rfl
theorem put_rest : putK (dk aw ac r t) (Sum.inr "rest") (.int u) = dk aw ac u t := by kernel_rfl
theorem put_turn : putK (dk aw ac r t) (Sum.inr "turn") (.int u) = dk aw ac r u := by kernel_rfl
theorem dk_merge : mergeK [] (dk aw ac r t) = dk aw ac r t := by kernel_rfl
variable {H : Hp} {d : Addr}
theorem get_wide (h : H d = some (.dK (dk aw ac r t))) : DGet H d (.str "wide") (some (.ref aw)) := by
  rw [← dk_wide (r := r) (t := t)]
  exact DGet.k (k := Sum.inr "wide") h
theorem get_cells (h : H d = some (.dK (dk aw ac r t))) : DGet H d (.str "cells") (some (.ref ac)) := by
  rw [← dk_cells (r := r) (t := t)]
  exact DGet.k (k := Sum.inr "cells") h
theorem get_rest (h : H d = some (.dK (dk aw ac r t))) : DGet H d (.str "rest") (some (.int r)) := by
  rw [← dk_rest (aw := aw) (ac := ac) (r := r) (t := t)]
  exact DGet.k (k := Sum.inr "rest") h
theorem get_turn (h : H d = some (.dK (dk aw ac r t))) : DGet H d (.str "turn") (some (.int t)) := by
  rw [← dk_turn (aw := aw) (ac := ac) (r := r) (t := t)]
  exact DGet.k (k := Sum.inr "turn") h
theorem set_rest (h : H d = some (.dK (dk aw ac r t))) (u : Int) : DPut H d (.str "rest") (.int u) (upd H d (.dK (dk aw ac u t))) := by
  rw [← put_rest (r := r)]
  exact DPut.k (k := Sum.inr "rest") h (by show 4 < sizeLine; decide)
theorem set_turn (h : H d = some (.dK (dk aw ac r t))) (u : Int) : DPut H d (.str "turn") (.int u) (upd H d (.dK (dk aw ac r u))) := by
  rw [← put_turn (t := t)]
  exact DPut.k (k := Sum.inr "turn") h (by show 4 < sizeLine; decide)
end
/-- all that was tracked but at d, aw is as it was -/
def Keep (d aw : Addr) (H H' : Hp) : Prop := ∀ b o, H b = some o → b ≠ d → b ≠ aw → H' b = some o
theorem Keep.refl (d aw : Addr) (H : Hp) : Keep d aw H H := fun _ _ h _ _ => h
theorem Keep.trans {d aw : Addr} {H H1 H2 : Hp} (a : Keep d aw H H1) (b : Keep d aw H1 H2) : Keep d aw H H2 := fun c o h h1 h2 => b c o (a c o h h1 h2) h1 h2
theorem Same.keep {d aw : Addr} {H H' : Hp} (s : Same H H') : Keep d aw H H' := fun b o h _ _ => s b o h
theorem Keep.new {d aw p : Addr} {H H' : Hp} {o : HO} (k : Keep d aw H H') (h : H' p = none) : Keep d aw H (upd H' p o) := fun b u e h1 h2 => by
  have z := k b u e h1 h2
  rw [upd_ne (ne_of_none z h)]
  exact z
theorem Same.new {p : Addr} {H : Hp} {o : HO} (h : H p = none) : Same H (upd H p o) := fun b u e => by
  rw [upd_ne (ne_of_none e h)]
  exact e
theorem Keep.seqL {K : PySem.W.Frag} {d aw a : Addr} {H H' : Hp} {xs : List V} (k : Keep d aw H H') (h : SqL K H a xs) (h1 : a ≠ d) (h2 : a ≠ aw) : SqL K H' a xs := by
  rcases h with (h | ⟨o, h⟩) | h
  · exact .inl (.inl (k _ _ h h1 h2))
  · exact .inl (.inr ⟨o, k _ _ h h1 h2⟩)
  · exact .inr h
theorem Keep.seqT {K : PySem.W.Frag} {d aw a : Addr} {H H' : Hp} {xs : List V} (k : Keep d aw H H') (h : SqT K H a xs) (h1 : a ≠ d) (h2 : a ≠ aw) : SqT K H' a xs := by
  rcases h with (h | ⟨o, h⟩) | h
  · exact .inl (.inl (k _ _ h h1 h2))
  · exact .inl (.inr ⟨o, k _ _ h h1 h2⟩)
  · exact .inr h
theorem Same.seqT {K : PySem.W.Frag} {a : Addr} {H H' : Hp} {xs : List V} (k : Same H H') (h : SqT K H a xs) : SqT K H' a xs := by
  rcases h with (h | ⟨o, h⟩) | h
  · exact .inl (.inl (k _ _ h))
  · exact .inl (.inr ⟨o, k _ _ h⟩)
  · exact .inr h
/-- the source stands at d, its wide numbers at aw, its cells at ac; it has turned at most n times -/
structure Draw (H : Hp) (d aw ac : Addr) (n : Int) : Prop where
  ne : aw ≠ ac
  ex : ∃ (wide cells : List Int) (rest turn : Int), H d = some (.dK (dk aw ac rest turn)) ∧ H aw = some (.lst (wide.map V.int)) ∧ H ac = some (.lst (cells.map V.int)) ∧
    wide.length ≤ 63 ∧ cells.length ≤ 63 ∧ (∀ x ∈ cells, 0 ≤ x ∧ x < 2147483629) ∧ 0 ≤ turn ∧ turn ≤ n
theorem Draw.mono {H : Hp} {d aw ac : Addr} {n m : Int} (D : Draw H d aw ac n) (h : n ≤ m) : Draw H d aw ac m := by
  obtain ⟨ne, w, c, r, t, h1, h2, h3, h4, h5, h6, h7, h8⟩ := D
  exact ⟨ne, w, c, r, t, h1, h2, h3, h4, h5, h6, h7, by omega⟩
theorem Draw.same {H H' : Hp} {d aw ac : Addr} {n : Int} (D : Draw H d aw ac n) (s : Same H H') : Draw H' d aw ac n := by
  obtain ⟨ne, w, c, r, t, h1, h2, h3, h⟩ := D
  exact ⟨ne, w, c, r, t, s _ _ h1, s _ _ h2, s _ _ h3, h⟩
/-- a tracked thing that is neither the source nor its wide numbers: told by its kind -/
theorem Draw.ned {H : Hp} {d aw ac a : Addr} {n : Int} {o : HO} (D : Draw H d aw ac n) (h : H a = some o) (hk : ∀ kvs, o ≠ .dK kvs) : a ≠ d := by
  obtain ⟨_, w, c, r, t, h1, _⟩ := D
  exact ne_of h h1 (hk _)
theorem Draw.neT {H : Hp} {d aw ac a : Addr} {n : Int} {o : HO} (D : Draw H d aw ac n) (h : H a = some o) (hk : ∀ xs, o ≠ .lst xs) : a ≠ aw := by
  obtain ⟨_, w, c, r, t, _, h2, _⟩ := D
  exact ne_of h h2 (hk _)
end Sa

set_option maxHeartbeats 4000000
/-! Plain facts shared by the laws: heaps, data, errors with fields. -/
namespace Sa
open PySem PySem.Spec PyProof.Rows L2 He NdefX
theorem ifT {A B : Prop} (h : A) : if (true : Bool) = true then A else B := h
theorem ints_canLay : ∀ ns : List Int, PyData.canLayAll0 (ns.map PyData.int) = true
  | [] => rfl
  | _ :: ns => ints_canLay ns
theorem ints_depth : ∀ ns : List Int, PyData.depthAll (ns.map PyData.int) = 0
  | [] => rfl
  | _ :: ns => by
    show max 0 (PyData.depthAll (ns.map PyData.int)) = 0
    rw [ints_depth ns]
    rfl
theorem ints_shaped (ns : List Int) : SeqAt.shaped (.list (ns.map PyData.int)) = true := by
  have h2 : decide (PyData.depthAll (ns.map PyData.int) + 1 ≤ 64) = true := by
    rw [ints_depth]
    rfl
  show (PyData.canLayAll0 (ns.map PyData.int) && decide (PyData.depthAll (ns.map PyData.int) + 1 ≤ 64)) = true
  rw [ints_canLay, h2]
  rfl
theorem ints_dp {K : PySem.W.Frag} {H : Hp} : ∀ ns : List Int, DpAll K H (ns.map V.int) (ns.map PyData.int)
  | [] => .nil
  | _ :: ns => .cons (.int _) (ints_dp ns)
theorem ints_eqv_nil : ∀ ns : List Int, PyData.eqv (.list (ns.map PyData.int)) (.list []) = ns.isEmpty
  | [] => rfl
  | _ :: _ => rfl
theorem Same.rfl {H : Hp} : Same H H := fun _ _ h => h
theorem Same.errAt {H H' : Hp} {a C : Addr} (s : Same H H') (e : ErrAt H a C) : ErrAt H' a C := by
  cases e with
  | plain h => exact .plain (s _ _ h)
  | full h hd => exact .full (s _ _ h) (s _ _ hd)
/-- __init__ of an error with fields: the last one kept stands first -/
def spFld (C : Addr) (fs : List Str) : Sp := fun vs H Q _ => ∃ (a : Addr) (ys : List V), vs = .ref a :: ys ∧ ys.length = fs.length ∧ H a = some (exo a C none) ∧
  ∀ dx H', H dx = none → dx ≠ a → H' a = some (exo a C (some dx)) → H' dx = some (exd dx (fs.zip ys).reverse) → (∀ b, b ≠ a → b ≠ dx → H' b = H b) → Q .non H'
theorem len_spFld {C : Addr} {fs : List Str} {vs : List V} {H : Hp} {Q : VK} {E : XK} (h : spFld C fs vs H Q E) : vs.length = fs.length + 1 := by
  obtain ⟨a, ys, rfl, hl, _⟩ := h
  show ys.length + 1 = _
  rw [hl]
theorem len1 {ys : List V} (h : ys.length = 1) : ∃ a, ys = [a] := match ys, h with | [a], _ => ⟨a, rfl⟩
theorem len3 {ys : List V} (h : ys.length = 3) : ∃ a b c, ys = [a, b, c] := match ys, h with | [a, b, c], _ => ⟨a, b, c, rfl⟩
theorem len2 {ys : List V} (h : ys.length = 2) : ∃ a b, ys = [a, b] := match ys, h with | [a, b], _ => ⟨a, b, rfl⟩
def FldAt (H0 : Hp) (a C dx : Addr) (fs : List (Str × V)) (H : Hp) : Prop := H a = some (exo a C (some dx)) ∧ H dx = some (exd dx fs) ∧ ∀ b, b ≠ a → b ≠ dx → H b = H0 b
theorem fld_new {H : Hp} {a C dx : Addr} {f : Str} {v : V} (n2 : dx ≠ a) : FldAt H a C dx [(f, v)] (upd (upd H dx (exd dx [(f, v)])) a (exo a C (some dx))) :=
  ⟨upd_same, by rw [upd_ne n2, upd_same], fun b b1 b2 => by rw [upd_ne b1, upd_ne b2]⟩
theorem fld_more {H0 H : Hp} {a C dx : Addr} {fs : List (Str × V)} {f : Str} {v : V} (n2 : dx ≠ a) (z : FldAt H0 a C dx fs H) : FldAt H0 a C dx ((f, v) :: fs) (upd H dx (exd dx ((f, v) :: fs))) :=
  ⟨by rw [upd_ne n2.symm]; exact z.1, upd_same, fun b b1 b2 => by rw [upd_ne b2]; exact z.2.2 b b1 b2⟩
structure SupF (P : Program) (w : World) (K : PySem.W.Frag) (mg : Str → Option Value) (base : Heap) (d : SupD) (ps : List Str) (sp : Sp) : Prop where
  ex : ∃ fd, FnOk P w K mg base (L2.CX P w) 1 (d.at_ K) fd ps sp ∧ Binds K fd ps [] ∧ SupK P K (ga K d.cls) (d.nf K) (d.at_ K) fd
/-- the program's file and scope -/
structure Pok (P : Program) : Prop where
  file : P.main.file = theFile
  top : (P.main.scope.names.lookup ("super" : Str)).isSome = false
section
variable {X : Cx} {d : SupD} {sx : Sx} {j : Nat} {ps : List Str} {sp : Sp} {p pos : Pos} {x : Str} {e : Expr} {es : List Expr} {ta : TA}
theorem pe_sup (F : SupF X.prog X.w X.K X.mg X.base d ps sp) (T : Tx sx X.K X.mg) (hr : Room j X.A) (ha : PA X (e :: es) ta) (ex : x = d.cls := by rfl) (hx : x ∈ sx.glos := by decide +kernel) (hj : 2 ≤ j := by decide) (hg : Gl X x := by rfl)
    (hdb : (x == ("__debug__" : Str)) = false := by decide) (he : starEach (e :: es) X.env = (false, eval e X.env) :: starEach es X.env := by rfl) (hpl : (backTo pos (starEach es X.env)).any (·.1) = false := by rfl) :
    PE X (.Call (.Name x p) (e :: es) [] pos) (tNewO (ga X.K d.cls) sp ta) := by
  obtain ⟨fd, F1, hb, S⟩ := F.ex
  subst ex
  exact pe_oex S.oex S.iC S.tI F1 (hr.mono hj) hb passL hg (T.glo d.cls hx) ha hdb he hpl
end
/-- the making: what comes of it -/
theorem new_fld {C : Addr} {fs : List Str} {H : Hp} {Q : VK} {vs : List V} (hl : vs.length = fs.length) (h1 : vs.length ≤ 1000)
    (k : ∀ a dx H', H a = none → Same H H' → H' a = some (exo a C (some dx)) → H' dx = some (exd dx (fs.zip vs).reverse) → Q (.ref a) H') :
    vs.length ≤ 1000 ∧ ∀ a, H a = none → spFld C fs (.ref a :: vs) (upd H a (exo a C none)) (fun v H2 => v = .non ∧ Q (.ref a) H2) (fun _ _ _ => False) := by
  refine ⟨h1, fun a ha => ⟨a, vs, rfl, hl, upd_same, fun dx H' n1 n2 e1 e2 e3 => ⟨rfl, k a dx H' ha (fun b o q => ?_) e1 e2⟩⟩⟩
  have na : b ≠ a := ne_of_none q ha
  rw [upd_ne n2] at n1
  rw [e3 b na (ne_of_none q n1), upd_ne na]
  exact q
theorem Same.seqL {K : PySem.W.Frag} {a : Addr} {H H' : Hp} {xs : List V} (k : Same H H') (h : SqL K H a xs) : SqL K H' a xs := by
  rcases h with (h | ⟨o, h⟩) | h
  · exact .inl (.inl (k _ _ h))
  · exact .inl (.inr ⟨o, k _ _ h⟩)
  · exact .inr h
theorem Same.rdk {a : Addr} {H H' : Hp} {u : HO} (k : Same H H') (h : Rd H a u) : Rd H' a u := by
  rcases h with h | ⟨o, h⟩
  · exact .inl (k _ _ h)
  · exact .inr ⟨o, k _ _ h⟩
section
variable {K : PySem.W.Frag} {H H' : Hp}
mutual
theorem Dq.same (s : Same H H') : ∀ (d : PyData) (v : V), Dq K H v d → Dq K H' v d
  | .none, _, h => by
    cases h
    exact .non
  | .bool b, _, h => by
    cases h
    exact .bl _
  | .int i, _, h => by
    cases h
    exact .int _
  | .str x, _, h => by
    cases h
    exact .str _
  | .list ds, _, h => by
    cases h with
    | lst hs ha => exact .lst (Same.seqL s hs) (Dq.sameAll s ds _ ha)
  | .tuple ds, _, h => by
    cases h with
    | tup hs ha => exact .tup (Same.seqT s hs) (Dq.sameAll s ds _ ha)
  | .dict ds, _, h => by
    cases h with
    | dct hs hk => exact .dct (Same.rdk s hs) (Dq.sameKv s ds _ hk)
theorem Dq.sameAll (s : Same H H') : ∀ (ds : List PyData) (vs : List V), DqAll K H vs ds → DqAll K H' vs ds
  | [], _, h => by
    cases h
    exact .nil
  | d :: ds, _, h => by
    cases h with
    | cons h1 h2 => exact .cons (Dq.same s d _ h1) (Dq.sameAll s ds _ h2)
theorem Dq.sameKv (s : Same H H') : ∀ (ds : List (PyData × PyData)) (kvs : List (Key × V)), DqKv K H kvs ds → DqKv K H' kvs ds
  | [], _, h => by
    cases h
    exact .nil
  | (dk, d) :: ds, _, h => by
    cases h with
    | cons h1 h2 => exact .cons (Dq.same s d _ h1) (Dq.sameKv s ds _ h2)
end
end
/-- repr may be asked of it -/
def okD (d : PyData) : Bool := d.showable && (decide (d.depth < 60) && decide (d.shown.length ≤ sizeLine))
theorem del_sub {H : Hp} {p : Addr} : Same (del H p) H := fun b o e => by
  by_cases h : b = p
  · rw [h, del_same] at e
    cases e
  · rw [del_ne h] at e
    exact e
theorem del_mono {H H' : Hp} {p : Addr} (s : Same H H') : Same (del H p) (del H' p) := fun b o e => by
  by_cases h : b = p
  · rw [h, del_same] at e
    cases e
  · rw [del_ne h] at e ⊢
    exact s b o e
theorem del_upd {H : Hp} {p : Addr} {o : HO} : del (upd H p o) p = del H p := by
  funext b
  by_cases h : b = p
  · rw [h, del_same, del_same]
  · rw [del_ne h, del_ne h, upd_ne h]
theorem take_snoc {α : Type} {l : List α} {i : Nat} {x : α} (h : l[i]? = some x) : l.take (i + 1) = l.take i ++ [x] := by
  rw [List.take_succ, h]
  rfl
theorem same_del {H : Hp} {D : Addr} {o : HO} (n : H D = none) : Same H (del (upd H D o) D) := fun b u e => by
  rw [del_ne (ne_of_none e n), upd_ne (ne_of_none e n)]
  exact e
theorem map_get {α β : Type} {f : α → β} {l : List α} {i : Nat} {y : β} (h : (l.map f)[i]? = some y) : ∃ x, l[i]? = some x ∧ f x = y := by
  rw [List.getElem?_map] at h
  cases q : l[i]? with
  | none =>
    rw [q] at h
    cases h
  | some x =>
    rw [q] at h
    exact ⟨x, rfl, Option.some.inj h⟩
/-- all but the source of draws -/
def dd (d aw : Addr) (H : Hp) : Hp := del (del H d) aw
theorem dd_sub {d aw : Addr} {H : Hp} : Same (dd d aw H) H := Same.trans del_sub del_sub
theorem dd_ne {d aw b : Addr} {H : Hp} (h1 : b ≠ d) (h2 : b ≠ aw) : dd d aw H b = H b := by
  unfold dd
  rw [del_ne h2, del_ne h1]
theorem dd_keep {d aw : Addr} {H H' : Hp} (k : Keep d aw H H') : Same (dd d aw H) (dd d aw H') := fun b o e => by
  by_cases h2 : b = aw
  · unfold dd at e
    rw [h2, del_same] at e
    cases e
  · by_cases h1 : b = d
    · unfold dd at e
      rw [del_ne h2, h1, del_same] at e
      cases e
    · rw [dd_ne h1 h2] at e ⊢
      exact k b o e h1 h2
end Sa

set_option maxHeartbeats 4000000
/-! A caught error kept as a value behind its except clause. -/
namespace Sa
open PySem PySem.Spec PyProof.Rows L2
/-- an error that was raised and caught, at a: its class, its dict -/
def ErV (cls : Value) (d : Option Addr) (a : Addr) : HO := .ext fun h => ∃ (oe : Obj) (vs : Array Value), h.get? a = some oe ∧ Zc cls d oe ∧ oe.data = .fields vs
theorem erV_ok {P : Program} {w : World} {H : Hp} {h : Heap} {a : Addr} {cls : Value} {d : Option Addr} {oe : Obj} {vs : Array Value} (e : h.get? a = some oe) (z : Zc cls d oe) (dd : oe.data = .fields vs) : ObjOk P w H h a (ErV cls d a) :=
  ⟨⟨oe, vs, e, z, dd⟩, ⟨oe, e⟩, fun _ _ ⟨o, v, q, r⟩ k => ⟨o, v, k o q, r⟩⟩
section
variable {X : Cx} {pins : List (Addr × Obj)} {σ : L2.St} {H : Hp} {s : Shared}
/-- an object that stands there, new behind the def's beginning, is tracked from now on -/
theorem inv_track {a : Addr} {oe : Obj} {vs : Array Value} {cls : Value} {d : Option Addr} (I : Inv X pins σ H s) (he : s.heap.get? a = some oe) (hz : Zc cls d oe) (hd : oe.data = .fields vs) (h0 : X.s_0.heap.get? a = none) (hn : H a = none)
    (hp : ∀ p ∈ X.pn ++ pins, p.1 ≠ a) : Inv X pins σ (upd H a (ErV cls d a)) s := by
  have nL : X.env.locals ≠ a := fun z => by
    obtain ⟨m, ⟨o, es, ep, e1, e2, _⟩, _⟩ := I.loc
    rw [z, he] at e1
    cases e1
    rw [hd] at e2
    cases e2
  have nC : ∀ x c, X.env.cells.lookup x = some c → c ≠ a := fun x c e z => by
    obtain ⟨v, o, e1, e2⟩ := I.cell x c e
    rw [z, he] at e1
    cases e1
    rw [hd] at e2
    cases e2
  refine ⟨I.ok, I.os, I.bare, ⟨I.base.keep, I.base.slot, fun b o e n hx => ?_, I.base.there, fun b xs e => ?_, fun b o u e => ?_, fun b ps e => ?_⟩, I.loc, I.cell, by rw [upd_ne nL]; exact I.free, fun x c e => by rw [upd_ne (nC x c e)]; exact I.freeC x c e, fun p hm => ?_, ?_, I.len⟩
  · have nb : b ≠ a := fun z => by
      rw [z, h0] at e
      cases e
    rw [upd_ne nb]
    exact I.base.free b o e n hx
  · have q := I.base.tups b xs e
    rw [upd_ne (ne_of_none q hn)]
    exact q
  · have q := I.base.frzs b o u e
    rw [upd_ne (ne_of_none q hn)]
    exact q
  · obtain ⟨more, q⟩ := I.base.tbls b ps e
    exact ⟨more, by rw [upd_ne (ne_of_none q hn)]; exact q⟩
  · obtain ⟨q1, q2, q3, q4, q5⟩ := I.pin p hm
    exact ⟨q1, by rw [upd_ne (hp p hm)]; exact q2, q3, q4, q5⟩
  · exact I.hok.laidN (fun _ _ z => z) hn (erV_ok he hz hd)
end
/-- the wish of try .. except X as n, the error being kept -/
def wAsV (K : PySem.W.Frag) (c : Value) (i : Nat) (ts : Addr → Value → Option Addr → TS) (Wout : WX) (D : Ends) : WX := fun cls d σ H =>
  ∃ b, PySem.W.exmOne K cls c = some b ∧ (b = true → ∀ a, H a = none → ts a cls d { nx := fun σ' H' => H' a = none → D.nx (σ'.set i none) (upd H' a (ErV cls d a)), rt := D.rt, bk := fun σ' H' => D.bk (σ'.set i none) H', ct := fun σ' H' => D.ct (σ'.set i none) H' } (σ.set i (some (.ref a))) H) ∧
    (b = false → Wout cls d σ H)
section
variable {X : Cx} {x n : Str} {c : Value} {i : Nat} {body suite : List Stmt} {b₀ : Stmt} {np pos pos' : Pos} {tb : WX → TS} {ts : Addr → Value → Option Addr → TS} {Wout : WX}
theorem ps_try_asV (hs : X.stack = X.env :: X.outer) (hf : X.env.frame = some X.env.locals) (hN : X.N.Nodup) (hi : X.N[i]? = some n) (hln : X.env.kindOf n = some .local) (hex : X.ex = []) (hc : Names X x c) (tk : Takes X Wout)
    (hb : ∀ (W : WX) (pn : List (Addr × Obj)) (xe : Value → Shared → Prop), Takes (X.tr pn xe) W → PassesOwn (model X.prog X.w) X.A X.env xe → PSs (X.tr pn xe) body (tb W))
    (hsu : ∀ (a : Addr) (oe : Obj) (cls : Value) (d : Option Addr) (pn : List (Addr × Obj)), Zc cls d oe → (∃ vs, oe.data = .fields vs) → PSs (X.suite a ((a, oe) :: pn)) (b₀ :: suite) (ts a cls d)) :
    PS X (.Try body [.ExceptHandler (some (.Name x np)) (some n) (b₀ :: suite) pos'] [] [] pos) (fun D σ H => tb (wAsV X.K c i ts Wout D) D σ H) := by
  constructor
  intro pins s0 σ0 H0 D I0 h0
  have okX := I0.ok
  have stk : X.A.frames = some (X.env :: X.outer) := okX.frames.trans (congrArg some hs)
  have lcl : Loc X.env.scope n := .inl hln
  apply wpAny_Try_except
  let Wt : WX := wAsV X.K c i ts Wout D
  let up_ : Value → Shared → Prop := fun e q1 => wpAny (model X.prog X.w) X.A (noteFrame e X.env) (fun _ q2 => wpAny (model X.prog X.w) X.A (setFlight e none) (fun _ q3 => wpAny (model X.prog X.w) X.A (handleBy e X.env [.ExceptHandler (some (.Name x np)) (some n) (b₀ :: suite) pos']) (SP X pins D) X.xe q3) X.xe q2) X.xe q1
  have catch_ : Takes (X.tr (X.pn ++ pins) up_) Wt := by
    rintro u q ⟨a, B, sJ, pJ, σJ, HJ, cls, d, rfl, Jt, base, ups, skyT, na, os, ag, b, eb, yes, no⟩
    have J : Inv X pins σJ HJ sJ := Jt.ofTry okX
    have skyX : Sky B (X.env :: X.outer) a (Zc cls d) X.env.locals q.heap := hs ▸ skyT
    refine Sky.land Zc.steady stk hf skyX fun g3 fly3 up3 => ?_
    have In3 : Inv X pins σJ HJ { q with heap := g3 } := J.landed base fly3.1 (ups.trans up3) os ag
    obtain ⟨o3, w3, a3, z3, f3⟩ := fly3.there
    have noFr : a ∉ frs (X.env :: X.outer) := fun m => by
      obtain ⟨_, o', e', nf⟩ := fly3.2.2.1.mem m
      rw [a3] at e'
      cases e'
      exact nf _ f3
    have aL : a ≠ X.env.locals := fun z => noFr (List.mem_filterMap.mpr ⟨X.env, List.mem_cons_self, by rw [hf, z]⟩)
    have aF : a ∉ X.fs := fun m => by
      obtain ⟨e, he, r⟩ := List.mem_filterMap.mp m
      exact noFr (List.mem_filterMap.mpr ⟨e, List.mem_cons_of_mem _ he, r⟩)
    have newJ : sJ.heap.get? a = none := by
      cases r : sJ.heap.get? a with
      | none => rfl
      | some o =>
        have z := base a o r (hs ▸ noFr)
        rw [fly3.2.1] at z
        cases z
    have new0 : X.s_0.heap.get? a = none := by
      cases r : X.s_0.heap.get? a with
      | none => rfl
      | some o =>
        obtain ⟨o', z⟩ := J.base.there a o r (by rw [hex]; exact List.not_mem_nil)
        rw [newJ] at z
        cases z
    have noPin : ∀ p ∈ X.pn ++ pins, p.1 ≠ a := fun p m z => by
      have r := (J.pin p m).1
      rw [z, newJ] at r
      cases r
    have Su3 := In3.suite a3 f3 na aL aF
    refine wpAny_handleBy_cons (codeAny_handlers_test ?_) (fun z => by cases z)
    have ask : ∀ {Q E : Value → Shared → Prop}, Q c { q with heap := g3 } → wpAny (model X.prog X.w) (X.A.mark (some (.ref a))) (eval (.Name x np) X.env) Q E { q with heap := g3 } := fun {Q E} r => by
      obtain ⟨h1, h2, h3 | ⟨h3, h4, h5⟩⟩ := hc
      · exact ld_glob (X := X.suite a ((a, o3) :: (X.pn ++ pins))) Su3 h1 h3 r h2
      · exact ld_blt (X := X.suite a ((a, o3) :: (X.pn ++ pins))) Su3 h1 h3 h4 r h5 h2
    have tells := PySem.W.exm_one (M := model X.prog X.w) In3.kIn (fun A Q E t k r => wpAny_typeOf_ref (k _ _ a3) (by rw [z3.1]; exact r)) eb
    refine ask (tells.here ?_)
    cases b with
    | true =>
      refine codeAny_handlers_suite_as (HandSPX.lands_againZ fly3 fun g4 fly4 up4 => ?_)
      obtain ⟨o4, w4, a4, z4, f4⟩ := fly4.there
      have In4 : Inv X pins σJ HJ { q with heap := g4 } := J.landed base fly4.1 ((ups.trans up3).trans up4) os ag
      refine store_ok (X := X.suite a ((a, o4) :: (X.pn ++ pins))) (v := .ref a) (In4.suite a4 f4 na aL aF) hN hi lcl rfl (fun s5 Su5 => ?_) (.inr hln)
      refine wpAny_mono ((hsu a o4 cls d (X.pn ++ pins) z4 ⟨_, f4⟩).run [] s5 _ HJ _ Su5 (yes rfl a na)) (fun fl s6 r6 => ?_) (fun _ _ z => z.elim)
      have gone : ∀ {σ6 : L2.St} {H6 : Hp} {Q : Shared → Prop}, Inv (X.suite a ((a, o4) :: (X.pn ++ pins))) [] σ6 H6 s6 → (∀ s7, Inv X ((a, o4) :: pins) (σ6.set i none) H6 s7 → Q s7) →
          wpAny (model X.prog X.w) X.A (do bindName X.env n .none; unbindBehindTheSuite X.env n pos') (fun _ s7 => Q s7) X.xe s6 := fun {σ6 H6 Q} Su6 k => by
        have pa := Su6.pin (a, o4) (List.mem_append_left _ List.mem_cons_self)
        refine gone_ok ((Su6.unsuite okX).pins_of (pins' := (a, o4) :: pins) fun p m => ?_) hN hi hln k
        rcases List.mem_cons.mp m with e | m
        · rw [e]
          exact pa
        · exact (Su6.unsuite okX).pin p (List.mem_append_right _ m)
      have less : ∀ {σ6 : L2.St} {H6 : Hp} {s7 : Shared}, Inv X ((a, o4) :: pins) σ6 H6 s7 → Inv X pins σ6 H6 s7 := fun J7 => J7.pins_of fun p m => J7.pin p (List.mem_append_right _ (List.mem_cons_of_mem _ m))
      cases fl with
      | next =>
        obtain ⟨σ6, H6, Su6, r6⟩ := r6
        refine gone Su6 fun s7 J7 => ?_
        obtain ⟨p1, p2, _⟩ := J7.pin (a, o4) (List.mem_append_right _ List.mem_cons_self)
        exact ⟨_, _, inv_track (less J7) p1 z4 f4 new0 p2 noPin, r6 p2⟩
      | brk =>
        obtain ⟨σ6, H6, Su6, r6⟩ := r6
        exact gone Su6 fun s7 J7 => ⟨_, _, less J7, r6⟩
      | cont =>
        obtain ⟨σ6, H6, Su6, r6⟩ := r6
        exact gone Su6 fun s7 J7 => ⟨_, _, less J7, r6⟩
      | ret u =>
        obtain ⟨v6, σ6, H6, Su6, rv6, r6⟩ := r6
        exact gone Su6 fun s7 J7 => ⟨_, _, _, less J7, rv6, r6⟩
    | false =>
      show wpAny _ X.A (handleBy (.ref a) X.env []) _ _ _
      apply wpAny_handleBy_nil
      obtain ⟨_, _, _, oe, vs, T, oT, ts', he, _, hd, h1, _⟩ := id fly3
      unfold PySem.passOn
      refine wpAny_bind (wpAny_field he hd h1 ?_)
      rw [if_neg (show ¬ ((Value.ref T == Value.none) = true) by simp)]
      have out : wpAny (model X.prog X.w) X.A (setFlight (.ref a) X.env.frame) (fun _ s4 => wpAny (model X.prog X.w) X.A (throw (.ref a) : Sem Flow) (SP X pins D) X.xe s4) X.xe { q with heap := g3 } := by
        rw [hf]
        refine HandSPX.setFlight_upZ fly3 fun g4 held4 up4 => wpAny_throw (tk _ _ ⟨a, B, sJ, pins, σJ, HJ, cls, d, rfl, J, base, (ups.trans up3).trans up4, .inr (.inr (by rw [hs]; exact held4)), na, os, ag, no rfl⟩)
      first
        | exact wpAny_bind (wpAny_pure (wpAny_bind out))
        | exact wpAny_bind out
  refine wpAny_mono ((hb Wt (X.pn ++ pins) up_ catch_ PassesOwn.looking).run [] s0 σ0 H0 D (I0.toTry _) h0) (fun fl s1 r => ?_) (fun e s1 r => r)
  cases fl with
  | next =>
    obtain ⟨σ1, H1, J1, r⟩ := r
    exact wpAny_execs_nil ⟨σ1, H1, J1.ofTry okX, r⟩
  | brk =>
    obtain ⟨σ1, H1, J1, r⟩ := r
    exact ⟨σ1, H1, J1.ofTry okX, r⟩
  | cont =>
    obtain ⟨σ1, H1, J1, r⟩ := r
    exact ⟨σ1, H1, J1.ofTry okX, r⟩
  | ret u =>
    obtain ⟨v, σ1, H1, J1, rv, r⟩ := r
    exact ⟨v, σ1, H1, J1.ofTry okX, rv, r⟩
end
end Sa

set_option maxHeartbeats 4000000
namespace Sa
open PySem PySem.Spec PyProof.Rows L2
/-- an error of the class C at a: made, or caught -/
inductive ErX (H : Hp) (a C : Addr) : Prop where
  | made (h : ErrAt H a C)
  | bare (h : H a = some (ErV (.ref C) none a))
  | told {dx : Addr} {fs : List (Str × V)} (h : H a = some (ErV (.ref C) (some dx) a)) (hd : H dx = some (.xd fs))
theorem ErX.same {H H' : Hp} {a C : Addr} (s : Same H H') (e : ErX H a C) : ErX H' a C := by
  cases e with
  | made h => exact .made (Same.errAt s h)
  | bare h => exact .bare (s _ _ h)
  | told h hd => exact .told (s _ _ h) (s _ _ hd)
section
variable {X : Cx} {pins : List (Addr × Obj)} {σ : L2.St} {H : Hp} {s : Shared} {a C dx : Addr} {fs : List (Str × V)} {cls : Value} {d : Option Addr}
theorem erV_at (I : Inv X pins σ H s) (h : H a = some (ErV cls d a)) : ∃ (oe : Obj) (vs : Array Value), s.heap.get? a = some oe ∧ Zc cls d oe ∧ oe.data = .fields vs := (I.hok a _ h).1
theorem ErX.inst (I : Inv X pins σ H s) (e : ErX H a C) : ∃ ox od, PySem.W.InstAt s.heap a ox C od := by
  cases e with
  | made h => exact h.inst I
  | bare h =>
    obtain ⟨oe, vs, he, hz, hd⟩ := erV_at I h
    refine ⟨oe, none, he, hz.1, by unfold PySem.W.notCls; rw [hd] <;> rfl, ?_⟩
    rw [hz.2] <;> trivial
  | told h hx =>
    obtain ⟨oe, vs, he, hz, hd⟩ := erV_at I h
    obtain ⟨mA, ⟨od, es, ep, ho, _⟩, _⟩ := (I.hok _ _ hx)
    refine ⟨oe, some od, he, hz.1, by unfold PySem.W.notCls; rw [hd] <;> rfl, ?_⟩
    rw [hz.2]
    exact ho
/-- isinstance(x, c), x an error -/
def rIsE2 (K : PySem.W.Frag) : List V → Hp → VK → Prop := fun xs H Q => ∃ (a C : Addr) (c : V) (cv : Value) (b : Bool), xs = [.ref a, c] ∧ ErX H a C ∧ ExcC K C ∧ (∀ u, RelV c u → u = cv) ∧ PySem.W.kitOne K (.ref C) cv = some b ∧ Q (.bl b) H
theorem call_isE2 : CallR X (.builtin "isinstance") (rIsE2 X.K) := by
  intro pins s σ H xs us Q I r h
  obtain ⟨a, C, c, cv, b, rfl, ea, T, hcv, e, q⟩ := h
  cases r with
  | cons rx rr =>
    cases rr with
    | cons rt rr =>
      cases rr
      cases rx
      have ec := hcv _ rt
      subst ec
      obtain ⟨ox, od, J⟩ := ea.inst I
      have hcl : (PySem.W.clsIn X.K C).isSome = true := by
        obtain ⟨cd, hc, _⟩ := PySem.W.any_some T.hd
        rw [hc] <;> rfl
      exact PySem.W.kia_one (PySem.W.kitx_exc (ox := ox) (od := od) hcl T.hg T.hk T.hs T.ha T.hn T.ht T.hm) I.kIn J e (fun z => nomatch z) fun tk => ⟨.bl b, H, I.kept (t' := tk) fun _ _ z => z, rfl, q⟩
/-- .. or of another value -/
theorem call_isAny : CallR X (.builtin "isinstance") (fun xs H Q => rIsE2 X.K xs H Q ∨ rIsi X.K xs H Q) := fun pins s σ H xs us Q I r h => h.elim (call_isE2 pins s σ H xs us Q I r) (call_isi pins s σ H xs us Q I r)
end
/-- x.f, x a caught error with its fields told -/
def tXcat (K : PySem.W.Frag) (f : Str) (te : TE) : TE := fun σ H Q => te σ H fun x H1 => ∃ (a C dx : Addr) (fs : List (Str × V)) (v : V), x = .ref a ∧ H1 a = some (ErV (.ref C) (some dx) a) ∧ H1 dx = some (.xd fs) ∧ XfC K C ∧ PySem.W.findIn K (.ref C) f = some none ∧ fs.lookup f = some v ∧ Q v H1
theorem pe_xcat {X : Cx} {e : Expr} {te : TE} {pos : Pos} {f : Str} (he : PE X e te) (hb : attributeBase e f X.env (eval e X.env) = eval e X.env := by rfl) : PE X (.Attribute e f pos) (tXcat X.K f te) := by
  refine ⟨fun pins s σ H Q I h => ?_⟩
  refine attr_of hb (thn (he.run pins s σ H _ I h) fun u s1 hh => ?_)
  obtain ⟨x, H1, I1, rx, a, C, dx, fs, v, ex, ea, ed, T, hno, l, q⟩ := hh
  subst ex
  obtain rfl : u = Value.ref a := rx
  obtain ⟨oe, vs, he1, hz, hd⟩ := erV_at I1 ea
  obtain ⟨mA, hns, hr⟩ := I1.hok _ _ ed
  obtain ⟨od, hod, hl⟩ := lookIn_ns hns
  obtain ⟨u, hu, ru⟩ := RelO.some_of (v := v) (o := mA f) (by rw [← l]; exact hr f)
  have J : PySem.W.InstAt s1.heap a oe C (some od) := ⟨he1, hz.1, by unfold PySem.W.notCls; rw [hd] <;> rfl, by rw [hz.2]; exact hod⟩
  exact HandSPX.exc_get I1.kIn J T.ga T.gg T.exC (PySem.W.findObj_own T.hdC hno rfl (by rw [hl, hu])) (handed_of ru) ⟨v, H1, I1.tok _, ru, q⟩
end Sa

set_option maxHeartbeats 4000000
/-! Two lists in step; raising an error with fields. -/
namespace Sa
open PySem PySem.Spec PyProof.Rows L2 He NdefX
inductive Al {β : Type} (R : Addr → β → Prop) : List Addr → List β → Prop
  | nil : Al R [] []
  | cons {a : Addr} {b : β} {as : List Addr} {bs : List β} : R a b → Al R as bs → Al R (a :: as) (b :: bs)
section
variable {β : Type} {R R' : Addr → β → Prop}
theorem Al.mono (f : ∀ a b, R a b → R' a b) : ∀ {as : List Addr} {bs : List β}, Al R as bs → Al R' as bs
  | _, _, .nil => .nil
  | _, _, .cons h r => .cons (f _ _ h) (Al.mono f r)
theorem Al.append : ∀ {as as' : List Addr} {bs bs' : List β}, Al R as bs → Al R as' bs' → Al R (as ++ as') (bs ++ bs')
  | _, _, _, _, .nil, r => r
  | _, _, _, _, .cons h q, r => .cons h (Al.append q r)
theorem Al.snoc {as : List Addr} {bs : List β} {a : Addr} {b : β} (h : Al R as bs) (r : R a b) : Al R (as ++ [a]) (bs ++ [b]) := h.append (.cons r .nil)
theorem Al.length : ∀ {as : List Addr} {bs : List β}, Al R as bs → as.length = bs.length
  | _, _, .nil => rfl
  | _, _, .cons _ r => by simp [Al.length r]
theorem Al.get : ∀ {as : List Addr} {bs : List β}, Al R as bs → ∀ (i : Nat) (a : Addr), as[i]? = some a → ∃ b, bs[i]? = some b ∧ R a b
  | _, _, .nil, i, a, h => by simp at h
  | _, _, .cons (a := b) (b := c) h r, 0, a, e => by
    have z : b = a := Option.some.inj e
    exact ⟨c, rfl, by rw [← z]; exact h⟩
  | _, _, .cons h r, i + 1, a, e => by
    rw [List.getElem?_cons_succ] at e ⊢
    exact Al.get r i a e
theorem Al.last {as : List Addr} : ∀ {bs : List β} {b : β}, Al R as (bs ++ [b]) → ∃ as' a, as = as' ++ [a] ∧ Al R as' bs ∧ R a b := by
  induction as with
  | nil =>
    intro bs b h
    cases bs <;> cases h
  | cons x as ih =>
    intro bs b h
    cases bs with
    | nil =>
      cases h with
      | cons h1 h2 =>
        cases h2
        exact ⟨[], x, rfl, .nil, h1⟩
    | cons y bs =>
      cases h with
      | cons h1 h2 =>
        obtain ⟨as', a, e, q1, q2⟩ := ih h2
        exact ⟨x :: as', a, by rw [e]; rfl, .cons h1 q1, q2⟩
end
section
variable {X : Cx} {d : SupD} {sx : Sx} {j : Nat} {ps : List Str} {sp : Sp} {p pos : Pos} {x : Str} {e : Expr} {es : List Expr} {ta : TA}
/-- raise C(..), C's own __init__ by super().__init__ -/
theorem pmk_sup (F : SupF X.prog X.w X.K X.mg X.base d ps sp) (T : Tx sx X.K X.mg) (hr : Room j X.A) (ha : PA X (e :: es) ta) (ex : x = d.cls := by rfl) (hx : x ∈ sx.glos := by decide +kernel) (hj : 2 ≤ j := by decide) (hg : Gl X x := by rfl)
    (hdb : (x == ("__debug__" : Str)) = false := by decide) (he : starEach (e :: es) X.env = (false, eval e X.env) :: starEach es X.env := by rfl) (hpl : (backTo pos (starEach es X.env)).any (·.1) = false := by rfl) :
    PMk X (.Call (.Name x p) (e :: es) [] pos) (tMkO (ga X.K d.cls) sp [] ta) := by
  obtain ⟨fd, F1, hb, S⟩ := F.ex
  subst ex
  exact pmk_oex S.oex S.iC S.tI F1 (hr.mono hj) hb .nil passL hg (T.glo d.cls hx) ha hdb he hpl
/-- what comes of it -/
theorem mk_fld {C : Addr} {fs : List Str} {H : Hp} {Q : XK} {vs : List V} (hl : vs.length = fs.length) (h1 : vs.length ≤ 1000)
    (k : ∀ dx H', H dx = none → Same H H' → H' dx = some (.xd (fs.zip vs).reverse) → Q (.ref C) (some dx) H') :
    vs.length ≤ 1000 ∧ ∀ a, H a = none → spFld C fs (.ref a :: (vs ++ [])) (upd H a (exo a C none))
      (fun v H2 => v = .non ∧ ∃ (d : Addr) (fs : List (Str × V)), H2 a = some (exo a C (some d)) ∧ H2 d = some (exd d fs) ∧ H d = none ∧ Q (.ref C) (some d) (upd (del H2 a) d (.xd fs))) (fun _ _ _ => False) := by
  refine ⟨h1, fun a ha => ⟨a, vs, by rw [List.append_nil], hl, upd_same, fun dx H' n1 n2 e1 e2 e3 => ⟨rfl, dx, _, e1, e2, ?_, ?_⟩⟩⟩
  · rw [upd_ne n2] at n1
    exact n1
  · rw [upd_ne n2] at n1
    refine k dx _ n1 (fun b o q => ?_) upd_same
    have na : b ≠ a := ne_of_none q ha
    have nd : b ≠ dx := ne_of_none q n1
    rw [upd_ne nd, del_ne na, e3 b na nd, upd_ne na]
    exact q
end
end Sa

set_option maxHeartbeats 4000000
/-! for i, c in enumerate(text). -/
namespace Sa
open PySem PySem.Spec PyProof.Rows L2
def Ites (x : Str) : It := ⟨fun i _ => i < x.cps.size, fun i H v H' => ∃ T c, v = .ref T ∧ H T = none ∧ H' = upd H T (.tup [.int (i : Nat), .str ⟨#[c]⟩]) ∧ x.cps[i]? = some c, fun i _ => i = x.cps.size⟩
theorem turn_enumS {P : Program} {w : World} {K : PySem.W.Frag} {elts : List Expr} {kk : Nat} {tpos : Pos} (e it : Addr) (x : Str) (t : Tok) :
    Turn P w K (.Tuple elts kk tpos) (Ites x) [e, it] e (fun i h => (∃ old, IsEnum h e it ((i : Nat) : Int) old) ∧ h.IsStrIter it (strIterType x) x t i ∧ e ≠ it) where
  mem := by simp
  obj := by
    rintro i h ⟨⟨old, he⟩, ⟨o, ho, hc, hd⟩, _⟩ b hb
    rcases (show b = e ∨ b = it by simpa using hb) with z | z <;> rw [z]
    · exact ⟨_, he, fun v q => nomatch q⟩
    · exact ⟨o, ho, fun v q => by rw [hd] at q; cases q⟩
  keep := by
    rintro i h h' ⟨⟨old, he⟩, ⟨o, ho, r⟩, hne⟩ k
    exact ⟨⟨old, k e (by simp) _ he⟩, ⟨o, k it (by simp) o ho, r⟩, hne⟩
  item := by
    rintro X rfl rfl rfl hc i pins s σ H E I hf ⟨⟨old, he⟩, hit, hne⟩ hg
    have hel : e < s.heap.objs.size := Heap.lt_size he
    have hil : it < s.heap.objs.size := by
      obtain ⟨_, q, _⟩ := hit
      exact Heap.lt_size q
    have D := Draws.text (prog := X.prog) (w := X.w) (A := X.A.in1) (I.ok.hd hc) it x t
    refine wpAny_pyNext_enum_itemD D he hit hg hne (fun m => hne (List.mem_singleton.mp m)) fun u h' tk hu ho hit' hT hsz hk => ?_
    obtain ⟨c, tc, hx, rfl⟩ := hu
    refine ⟨_, rfl, wpAny_letOwnedTupleGo_enum (s := { s with heap := h', toks := tk + 1 }) ho fun h'' he' sb => ?_⟩
    have tupAt : h''.get? s.heap.objs.size = some { cls := .type "tuple", data := .seq #[.int i tk, .str ⟨#[c]⟩ tc] } := (sb.2 _ (Nat.ne_of_gt hel)).trans hT
    have fresh : ObjOk X.prog X.w (upd H s.heap.objs.size (.tup [.int (i : Nat), .str ⟨#[c]⟩])) h'' s.heap.objs.size (.tup [.int (i : Nat), .str ⟨#[c]⟩]) :=
      ⟨by show 2 ≤ sizeLine; decide, [.int i tk, .str ⟨#[c]⟩ tc], .cons ⟨_, rfl⟩ (.cons ⟨_, rfl⟩ .nil), ⟨_, tupAt, rfl, _, rfl⟩⟩
    have J : Inv X pins σ (upd H s.heap.objs.size (.tup [.int (i : Nat), .str ⟨#[c]⟩])) { s with heap := h'', toks := tk + 1 } :=
      I.turnedNew (ch := [e, it]) (fun b ob hb q => (sb.2 b (fun z => hb (by rw [z]; simp))).trans (hk b ob (fun z => hb (by rw [z]; simp)) (fun z => hb (by rw [z]; simp)) q)) hf (Nat.le_refl _) fresh
    refine ⟨.ref s.heap.objs.size, _, J, rfl, ⟨_, c, rfl, I.hok.fresh (Nat.le_refl _), rfl, hx⟩, ⟨⟨.str ⟨#[c]⟩ tc, ?_⟩, ?_, hne⟩, fun b hb => ?_⟩
    · rw [show ((i + 1 : Nat) : Int) = (i : Int) + 1 by omega]
      exact he'
    · obtain ⟨o, ho', r⟩ := hit'
      exact ⟨o, (sb.2 it (Ne.symm hne)).trans ho', r⟩
    · have lt : b < s.heap.objs.size := by
        rcases (show b = e ∨ b = it by simpa using hb) with z | z <;> rw [z]
        · exact hel
        · exact hil
      rw [upd_ne (Nat.ne_of_lt lt)]
      exact (hf b hb).1
  done := by
    rintro X rfl rfl rfl hc i pins s σ H E I hf ⟨⟨old, he⟩, hit, hne⟩ hg
    obtain ⟨f0, f1, f2, f3, f4, f5⟩ := hf it (by simp)
    have hg : i = x.cps.size := hg
    subst hg
    have D := Draws.text (prog := X.prog) (w := X.w) (A := X.A.in1) (I.ok.hd hc) it x t
    exact wpAny_pyNext_enum_endD D he hit fun h' eb => ⟨rfl, I.turned (t' := s.toks) (fun b o hb q => eb b o hb q) f0 f1 f3 f4 f5⟩
  self := fun A i s Q E st h => let ⟨⟨_, he⟩, _⟩ := st; wpAny_pyIter_enum he h
def iEnumS (ta : TA) : TI := fun σ H R => ta σ H fun vs H1 => ∃ x, vs = [.str x] ∧ R (Ites x) H1
theorem pi_enumS {X : Cx} {e : Expr} {ta : TA} {p pos tpos : Pos} {elts : List Expr} {kk : Nat} (hg : Gl X "enumerate") (hm : X.mg "enumerate" = none) (ha : PA X [e] ta) (hs : starEach [e] X.env = [(false, eval e X.env)] := by rfl) :
    PI X (.Tuple elts kk tpos) (.Call (.Name "enumerate" p) [e] [] pos) (iEnumS ta) := by
  refine ⟨fun pins s σ H R I h => ?_⟩
  refine Call_ (ld_blt I hg hm boot_enumerate (PyProof.Rows.callWith_type1 (thn (ha.run pos pins s σ H _ I h) fun us s1 ⟨vs, H1, I1, r1, q1⟩ => ?_) hs rfl))
  obtain ⟨x, ex, q⟩ := q1
  subst ex
  obtain ⟨u, rfl, t, rfl⟩ := vals1 r1
  refine call_enumerate_str fun h' he hit hsz hk => wpAny_pyIter_enum he ?_
  have J : Inv X pins σ H1 { s1 with heap := h' } := I1.kept (t' := s1.toks) hk
  refine ⟨s1.heap.objs.size + 1, [s1.heap.objs.size + 1, s1.heap.objs.size], _, _, H1, rfl, J, turn_enumS (s1.heap.objs.size + 1) s1.heap.objs.size x t, ⟨⟨.none, he⟩, hit, Nat.succ_ne_self _⟩, fun b hb => ?_, q⟩
  have le : s1.heap.objs.size ≤ b := by
    rcases (show b = s1.heap.objs.size + 1 ∨ b = s1.heap.objs.size by simpa using hb) with z | z <;> rw [z]
    · exact Nat.le_succ _
    · exact Nat.le_refl _
  exact I1.fpOk le (I1.hok.fresh le)
theorem walk_enumS {z : Str} : Walk (Ites z) z.cps.size (fun _ => True) (fun i H v H' => ∃ T c, v = .ref T ∧ H T = none ∧ H' = upd H T (.tup [.int (i : Nat), .str ⟨#[c]⟩]) ∧ z.cps[i]? = some c) :=
  ⟨fun _ _ hi _ => hi, fun _ _ => rfl, fun _ _ _ _ _ _ y => y⟩
end Sa

set_option maxHeartbeats 4000000
/-! f(k = v, ..) with keywords alone; text * int. -/
namespace Sa
open PySem PySem.Spec PyProof.Rows L2 He
/-- a def that is called by keywords alone, named ks; gV puts their values in the parameters' order -/
structure CalK (P : Program) (w : World) (K : PySem.W.Frag) (mg : Str → Option Value) (base : Heap) (x : Str) (k : Nat) (ps ks : List Str) (gV : List V → List V → List V) (sp : Sp) : Prop where
  ok : ∃ fd g, FnOk P w K mg base (L2.CX P w) k (ga K x) fd ps sp ∧ KBn K fd ps 0 ks g gV
  kp : PySem.W.keepIn K (.ref (ga K x)) = true
  at_ : mg x = some (.ref (ga K x))
theorem Cal.key {P : Program} {w : World} {K : PySem.W.Frag} {mg : Str → Option Value} {base : Heap} {x : Str} {k : Nat} {ps ks : List Str} {sp : Sp} {sx : Sx} {st : Stmt} (C : Cal P w K mg base x k ps sp) (T : Tx sx K mg) (i : Nat) (hd : sx.defs[i]? = some (mkD x st)) (g : {α : Type} → List α → List α → List α)
    (h : ∀ (kV doc pm : Value) (an : Option Addr) (cdv ct : Value) (ws : List Value), ws.length = ks.length → bindArgs (PySem.W.fnOf x x (defArgs st) (defBody st) (defScope st) .none kV doc pm an cdv ct) ⟨[], ks.zip ws⟩ = pure (ps.zip (g [] ws)))
    (hr : ∀ {vs : List V} {us : List Value} {zs : List V} {ws : List Value}, Vals vs us → Vals zs ws → Vals (g vs zs) (g us ws)) : CalK P w K mg base x k ps ks g sp := by
  obtain ⟨fd, F, b, oc, od, osl, lk⟩ := C.ok
  obtain ⟨fd2, F2⟩ := T.def_ i hd
  obtain ⟨oc2, od2, dV, kV, doc, pm, an, cdv, ct, osl2, e, lk2, _, hD, _⟩ := F2.ex
  have efd : fd = fd2 := by
    rw [lk] at lk2
    cases lk2
    rfl
  have edV : dV = .none := by
    rcases hD with ⟨_, z⟩ | ⟨z, _⟩
    · exact z
    · exact absurd rfl z
  rw [edV] at e
  refine ⟨⟨fd, g, F, ⟨fun s us ws X l1 l2 => ?_, hr⟩⟩, C.kp, C.at_⟩
  have u0 : us = [] := List.length_eq_zero_iff.mp l1
  rw [u0, efd, e]
  exact .of_eq (h kV doc pm an cdv ct ws l2)
section
variable {X : Cx} {k j : Nat} {ps ks : List Str} {sp : Sp} {x : Str} {p pos : Pos} {kws : List Keyword} {tk : TA} {gV : List V → List V → List V}
/-- f(k = v, ..) -/
theorem pe_calK (C : CalK X.prog X.w X.K X.mg X.base x k ps ks gV sp) (hr : Room j X.A) (hkw : PK X kws tk) (hj : k ≤ j := by decide) (hg : Gl X x := by rfl)
    (hall : (backToKw pos (keywordEach kws X.env)).all (·.1.isSome) = true := by rfl) (hks : (backToKw pos (keywordEach kws X.env)).filterMap (·.1) = ks := by rfl) (hdb : (x == ("__debug__" : Str)) = false := by decide)
    (hpl : ((backTo pos (starEach [] X.env)).any (·.1) || (backToKw pos (keywordEach kws X.env)).any (·.1.isNone)) = false := by rfl) : PE X (.Call (.Name x p) [] kws pos) (tCallN 0 ks.length sp gV E0 tNil tk) := by
  obtain ⟨fd, g, F, b⟩ := C.ok
  refine ⟨fun pins s σ H Q I h => ?_⟩
  refine wpAny_Call_Name_kw (ld_glob I hg C.at_ ?_ hdb)
  refine PySem.W.callWith_KW0 (h₀ := X.base) I.ok.mod.kin C.kp hall ?_ hpl
  refine thn (hkw.run pos pins s σ H _ I h) fun ws s2 ⟨zs, H2, I2, rz, l1, l2, q2⟩ => ⟨I2.kIn, ?_⟩
  rw [hks]
  exact run_fnN (us := []) (vs := []) F (hr.mono hj) b passL I2 .nil rz rfl l2 q2
/-- .. in a try -/
theorem op_mul_str : OpR X (binaryOp .Mult) (fun x y H Q => ∃ (z : Str) (n : Int), x = .str z ∧ y = .int n ∧ MulOk z n ∧ Q (.str (Txt.mul z n)) H) := by
  intro pins s σ H x y v u Q I rx ry h
  obtain ⟨z, n, rfl, rfl, ok, q⟩ := h
  obtain ⟨t, rfl⟩ := rx
  obtain ⟨t', rfl⟩ := ry
  exact SB.mul ok fun t2 k2 => ⟨.str (Txt.mul z n), H, I.tok k2, ⟨_, rfl⟩, q⟩
end
end Sa

set_option maxHeartbeats 4000000
namespace K00
open PySem PySem.Spec PyProof.Rows L2 He Sa
section
variable {P : Program} {w : World} {K : PySem.W.Frag} {mg : Str → Option Value} {base : Heap}
abbrev Nbegun : List Str := ["_law_script", "_law_wide", "_law_grain"]
theorem scbegun : FnScope Nbegun ["_law_script"] (defScope sbegun) := ⟨rfl, rfl, rfl, by decide +kernel, rfl, by decide +kernel, by decide +kernel⟩
def spBegun (K : PySem.W.Frag) : Sp := fun vs H Q _ => ∃ (a : Addr) (ns : List Int), vs = [.ref a] ∧ SqL K H a (ns.map V.int) ∧ ns.length ≤ 63 ∧
  ∀ H' d aw ac, Same H H' → H d = none → H aw = none → H ac = none → Draw H' d aw ac 0 → Q (.ref d) H'
theorem c_begun (T : Tx sx K mg) : Cal P w K mg base "_law_begun" 1 ["_law_script"] (spBegun K) := by
  refine T.cal 3 rfl (by decide +kernel) scbegun (fun vs H Q E h => ?_) (fun _ _ _ _ _ _ us hl => match us, hl with | [_], _ => rfl) (fun cdv A outer s H vs Q E hr h => ?_)
  · obtain ⟨a, ns, rfl, _⟩ := h
    rfl
  · obtain ⟨a, ns, rfl, hS, hlen, k⟩ := h
    refine ⟨_, (pss_cons (ps_setLc (i := 1) (own := [("_law_grain", 2)]) (g := gName 2) rfl scbegun.nd rfl rfl (sw_true rfl rfl rfl (by decide +kernel)) (pi_list (pv 0)) (blkOk_by (N := Nbegun) (sc := defScope sbegun) (by decide +kernel)) (fun _ _ _ _ _ => (pg_name (i := 2) scbegun.nd rfl (Or.inl rfl))) (fun _ _ _ _ _ => (pts_one (pt_cmpR op_ge (pe_callB call_abs (by rfl) (T.free "abs") (by decide +kernel) (pa_cons (pv 2) pa_nil)) (pe_op op_pow pe_int pe_int) (nomark _)))) (fun _ _ _ _ _ => (pe_op op_sub (pe_callB call_abs (by rfl) (T.free "abs") (by decide +kernel) (pa_cons (pv 2) pa_nil)) (pe_op op_pow pe_int pe_int))))
    (pss_one (ps_ret (pe_disp (pps_cons pe_str (pv 1) (pps_cons pe_str (pe_lc (own := [("_law_grain", 2)]) (g := gName 2) (tt := tYes) rfl scbegun.nd (pi_list (pv 0)) (blkOk_by (N := Nbegun) (sc := defScope sbegun) (by decide +kernel)) (fun _ _ _ _ _ => (pg_name (i := 2) scbegun.nd rfl (Or.inl rfl))) (fun _ _ _ _ _ => pts_nil) (fun _ _ _ _ _ => (pe_op op_modN (pe_callTy call_int1 (by rfl) (T.free "int") (by decide +kernel) (pa_cons (pe_callB call_abs (by rfl) (T.free "abs") (by decide +kernel) (pa_cons (pv 2) pa_nil)) pa_nil)) pe_int))) (pps_cons pe_str pe_int (pps_cons pe_str pe_int pps_nil)))) (by rfl) (by rfl) (fun z => by cases z) (by decide))))), ?_⟩
    refine ⟨_, rfl, a, rfl, ⟨_, hS⟩, fun D nD => lc_list (K := K) (a := a) (xs := ns.map V.int) (fun i H' => ∃ ws : List Int, ws.length ≤ i ∧ H' D = some (.lst (ws.map V.int)) ∧ Same H H') ⟨[], Nat.le_refl _, upd_same, Same.new nD⟩ (fun i H' _ ⟨_, _, _, s1⟩ => s1.seq hS) ?_ ?_⟩
    · rintro i x H1 hi ⟨ws, hw, hD, s1⟩
      obtain ⟨z, rfl⟩ : ∃ z, x = V.int z := by
        obtain ⟨z, _, e⟩ := List.mem_map.mp (List.mem_of_getElem? hi)
        exact ⟨z, e.symm⟩
      have hil : i < 63 := by
        have := (List.getElem?_eq_some_iff.mp hi).1
        rw [List.length_map] at this
        omega
      refine ⟨rfl, _, rfl, _, rfl, _, _, rfl, rfl, ⟨by decide, by decide, by decide⟩, _, _, rfl, rfl, _, rfl, ?_⟩
      refine ite2 (fun _ => ?_) (fun _ => ?_)
      · refine ⟨_, rfl, _, rfl, _, _, rfl, rfl, ⟨by decide, by decide, by decide⟩, _, _, rfl, rfl, _, hD, ?_, ws ++ [(if z < 0 then -z else z) - 10 ^ Int.toNat 18], ?_, ?_, ?_⟩
        · rw [List.length_map]
          exact small1000 (by omega)
        · rw [List.length_append]
          show ws.length + 1 ≤ i + 1
          omega
        · rw [upd_same, List.map_append]
          rfl
        · exact fun b o e => by
            rw [upd_ne (ne_of_none e nD)]
            exact s1 b o e
      · exact ⟨ws, by omega, hD, s1⟩
    · rintro H1 ⟨ws, hw, hD, s1⟩
      rw [List.length_map] at hw
      intro d nd
      have s2 : Same H (upd H1 d (.dK [])) := s1.trans (Same.new nd)
      have nDd : D ≠ d := ne_of_none hD nd
      refine ⟨_, rfl, _, rfl, a, rfl, ⟨_, s2.seq hS⟩, fun C nC => ?_⟩
      have nCd : d ≠ C := ne_of_none upd_same nC
      have nCD : D ≠ C := ne_of_none (by rw [upd_ne nDd]; exact hD) nC
      refine lc_list (K := K) (a := a) (xs := ns.map V.int) (fun i H' => ∃ cs : List Int, cs.length = i ∧ (∀ x ∈ cs, 0 ≤ x ∧ x < 2147483629) ∧ H' C = some (.lst (cs.map V.int)) ∧ H' D = some (.lst (ws.map V.int)) ∧ H' d = some (.dK []) ∧ Same H H')
        ⟨[], rfl, fun _ h => (nomatch h), upd_same, by rw [upd_ne nCD, upd_ne nDd]; exact hD, by rw [upd_ne nCd, upd_same], s2.trans (Same.new nC)⟩ (fun i H' _ ⟨_, _, _, _, _, _, s3⟩ => s3.seq hS) ?_ ?_
      · rintro i x H3 hi ⟨cs, hc, hb, hC, hD3, hd3, s3⟩
        obtain ⟨z, rfl⟩ : ∃ z, x = V.int z := by
          obtain ⟨z, _, e⟩ := List.mem_map.mp (List.mem_of_getElem? hi)
          exact ⟨z, e.symm⟩
        have hil : i < 63 := by
          have := (List.getElem?_eq_some_iff.mp hi).1
          rw [List.length_map] at this
          omega
        have nCH : H C = none := Same.free s2 nC
        refine ⟨rfl, ?_⟩
        delta tYes
        refine ifT ?_
        refine ⟨_, rfl, _, rfl, .inl ⟨_, rfl, _, _, rfl, rfl, (by show (2147483629 : Int) ≠ 0; decide), _, hC, ?_, cs ++ [((if z < 0 then -z else z) : Int).fmod 2147483629], ?_, ?_, ?_, ?_, ?_, ?_⟩⟩
        · rw [List.length_map]
          exact small1000 (by omega)
        · rw [List.length_append, hc]
          rfl
        · intro x hx
          rcases List.mem_append.mp hx with hx | hx
          · exact hb x hx
          · obtain rfl := List.mem_singleton.mp hx
            rw [Int.fmod_eq_emod_of_nonneg _ (by decide)]
            exact ⟨Int.emod_nonneg _ (by decide), Int.emod_lt_of_pos _ (by decide)⟩
        · rw [upd_same, List.map_append]
          rfl
        · rw [upd_ne nCD]
          exact hD3
        · rw [upd_ne nCd]
          exact hd3
        · exact fun b o e => by
            rw [upd_ne (ne_of_none e nCH)]
            exact s3 b o e
      · rintro H3 ⟨cs, hc, hb, hC, hD3, hd3, s3⟩
        rw [List.length_map] at hc
        refine ⟨hd3, dk D C 0 0, rfl, (by show 4 ≤ 15; decide), ?_⟩
        have nDH : H D = none := nD
        refine k _ d D C (fun b o e => ?_) (Same.free s1 nd) nDH (Same.free s2 nC) ⟨nCD, ws, cs, 0, 0, by rw [upd_same, dk_merge], ?_, ?_, by omega, by omega, hb, by decide, by decide⟩
        · rw [upd_ne (ne_of_none e (Same.free s1 nd))]
          exact s3 b o e
        · rw [upd_ne nDd]
          exact hD3
        · rw [upd_ne nCd.symm]
          exact hC
abbrev Nmixed : List Str := ["_law_draw", "_law_turn", "_law_found", "_law_prime", "_law_blend", "_law_grain"]
theorem scmixed : FnScope Nmixed ["_law_draw"] (defScope smixed) := ⟨rfl, rfl, rfl, by decide +kernel, rfl, by decide +kernel, by decide +kernel⟩
def spMixed : Sp := fun vs H Q _ => ∃ (d aw ac : Addr) (n : Int), vs = [.ref d] ∧ Draw H d aw ac n ∧ n < 1000000000000 ∧ ∀ (r : Int) H', Keep d aw H H' → Draw H' d aw ac (n + 1) → Q (.int r) H'
theorem c_mixed (T : Tx sx K mg) : Cal P w K mg base "_law_mixed" 1 ["_law_draw"] spMixed := by
  refine T.cal 4 rfl (by decide +kernel) scmixed (fun vs H Q E h => ?_) (fun _ _ _ _ _ _ us hl => match us, hl with | [_], _ => rfl) (fun cdv A outer s H vs Q E hr h => ?_)
  · obtain ⟨d, aw, ac, n, rfl, _⟩ := h
    rfl
  · obtain ⟨d, aw, ac, n, rfl, ⟨hne, wide, cells, rest, turn, h1, h2, h3, h4, h5, h6, h7, h8⟩, hn, k⟩ := h
    have hu := hu_of hr
    refine ⟨_, (pss_cons (ps_par (i := 1) (j := 2) (by rfl) scmixed.nd rfl rfl (by decide) rfl rfl (pa_cons (pe_op op_add (pe_dget hu (pv 0) pe_str (fun _ _ => rfl)) pe_int) (pa_cons pe_int pa_nil)) (by rfl))
    (pss_cons (ps_dput hu (pv 0) pe_str (pv 1) rfl)
    (pss_cons (ps_for PassesOwn.never rfl (pi_list (pe_lst (pa_cons pe_int (pa_cons pe_int (pa_cons pe_int (pa_cons pe_int pa_nil)))))) (pg_name (i := 3) scmixed.nd rfl (Or.inl rfl)) (pss_cons (ps_set (i := 4) scmixed.nd rfl (Or.inl rfl) (pe_op op_add (pe_op op_mul pe_int (pv 1)) (pe_op op_fdivN (pv 3) pe_int)))
    (pss_cons (ps_for PassesOwn.never rfl (pi_list (pe_dget hu (pv 0) pe_str (fun _ _ => rfl))) (pg_name (i := 5) scmixed.nd rfl (Or.inl rfl)) (pss_one (ps_set (i := 4) scmixed.nd rfl (Or.inl rfl) (pe_op op_modN (pe_callTy call_int1 (by rfl) (T.free "int") (by decide +kernel) (pa_cons (pe_op op_add (pe_op op_add (pe_op op_mul (pv 4) pe_int) (pv 5)) (pv 1)) pa_nil)) (pv 3)))))
    (pss_one (ps_set (i := 2) scmixed.nd rfl (Or.inl rfl) (pe_op op_add (pe_op op_mul (pv 2) pe_int) (pe_op op_modN (pe_callTy call_int1 (by rfl) (T.free "int") (by decide +kernel) (pa_cons (pe_op op_pow (pv 4) pe_int) pa_nil)) (pv 3))))))))
    (pss_one (ps_ret (pv 2)))))), ?_⟩
    have nda : aw ≠ d := ne_of h2 h1 (fun e => by cases e)
    have ndc : ac ≠ d := ne_of h3 h1 (fun e => by cases e)
    refine ⟨_, rfl, d, _, rfl, get_turn h1, _, _, rfl, rfl, _, _, rfl, ?_⟩
    refine ⟨_, rfl, _, rfl, d, _, rfl, set_turn h1 _, ?_⟩
    refine ⟨small1000 (by show 3 ≤ 1000; decide), fun p hp => ?_⟩
    have npd : d ≠ p := ne_of_none upd_same hp
    have npa : aw ≠ p := ne_of_none (by rw [upd_ne nda]; exact h2) hp
    have npc : ac ≠ p := ne_of_none (by rw [upd_ne ndc]; exact h3) hp
    refine ⟨p, rfl, ⟨_, .inl (.inl upd_same)⟩, ?_⟩
    have hd2 : (upd (upd H d (.dK (dk aw ac rest (turn + 1)))) p (.lst [V.int 2147483647, V.int 2147483629, V.int 2147483587, V.int 2147483579])) d = some (.dK (dk aw ac rest (turn + 1))) := by rw [upd_ne npd, upd_same]
    have ha2 : (upd (upd H d (.dK (dk aw ac rest (turn + 1)))) p (.lst [V.int 2147483647, V.int 2147483629, V.int 2147483587, V.int 2147483579])) aw = some (.lst (wide.map V.int)) := by rw [upd_ne npa, upd_ne nda]; exact h2
    have hc2 : (upd (upd H d (.dK (dk aw ac rest (turn + 1)))) p (.lst [V.int 2147483647, V.int 2147483629, V.int 2147483587, V.int 2147483579])) ac = some (.lst (cells.map V.int)) := by rw [upd_ne npc, upd_ne ndc]; exact h3
    have hk2 : Keep d aw H (upd (upd H d (.dK (dk aw ac rest (turn + 1)))) p (.lst [V.int 2147483647, V.int 2147483629, V.int 2147483587, V.int 2147483579])) := fun b o e n1 n2 => by
      rw [upd_ne (ne_of_none (by rw [upd_ne n1]; exact e) hp), upd_ne n1]
      exact e
    have hp2 : (upd (upd H d (.dK (dk aw ac rest (turn + 1)))) p (.lst [V.int 2147483647, V.int 2147483629, V.int 2147483587, V.int 2147483579])) p = some (.lst [V.int 2147483647, V.int 2147483629, V.int 2147483587, V.int 2147483579]) := upd_same
    generalize (upd (upd H d (.dK (dk aw ac rest (turn + 1)))) p (.lst [V.int 2147483647, V.int 2147483629, V.int 2147483587, V.int 2147483579])) = H2 at *
    refine for_list (K := K) (a := p) (xs := [V.int 2147483647, V.int 2147483629, V.int 2147483587, V.int 2147483579]) (fun _ σ H' => H' = H2 ∧ ∃ (f : Int) (x y z : Option V), σ = [some (.ref d), some (.int (turn + 1)), some (.int f), x, y, z]) ⟨rfl, 0, none, none, none, rfl⟩ (fun i σ H' _ h => by rw [h.1]; exact .inl (.inl hp2)) ?_ ?_
    · rintro i pv' σ H' hi ⟨rfl, f, x, y, z, rfl⟩
      obtain ⟨q, rfl, hq1, hq2⟩ : ∃ q : Int, pv' = V.int q ∧ 0 < q ∧ q < 2147483648 := by
        rcases i with _ | _ | _ | _ | i
        · exact ⟨_, (Option.some.inj hi).symm, by decide, by decide⟩
        · exact ⟨_, (Option.some.inj hi).symm, by decide, by decide⟩
        · exact ⟨_, (Option.some.inj hi).symm, by decide, by decide⟩
        · exact ⟨_, (Option.some.inj hi).symm, by decide, by decide⟩
        · exact absurd hi (by simp)
      refine ⟨_, rfl, _, _, rfl, rfl, .inl ⟨by decide, by decide⟩, _, rfl, _, _, rfl, rfl, ⟨by decide, by decide⟩, _, _, rfl, rfl, ?_⟩
      refine ⟨_, rfl, d, _, rfl, get_cells hd2, ac, rfl, ⟨_, .inl (.inl hc2)⟩, ?_⟩
      refine for_list (K := K) (a := ac) (xs := cells.map V.int) (fun _ σ H2' => H2' = H' ∧ ∃ (b : Int) (z : Option V), (0 ≤ b ∧ b < 100000000000000000) ∧ σ = [some (.ref d), some (.int (turn + 1)), some (.int f), some (.int q), some (.int b), z]) ⟨rfl, 48271 * (turn + 1) + Int.fdiv q 37, z, ?_, rfl⟩ (fun i σ H' _ h => by rw [h.1]; exact .inl (.inl hc2)) ?_ ?_
      · rw [Int.fdiv_eq_ediv_of_nonneg _ (by decide)]
        omega
      · rintro i c σ H3 hi ⟨rfl, b, z, hb, rfl⟩
        obtain ⟨c, rfl⟩ : ∃ z, c = V.int z := by
          obtain ⟨z, _, e⟩ := List.mem_map.mp (List.mem_of_getElem? hi)
          exact ⟨z, e.symm⟩
        refine ⟨_, rfl, _, _, rfl, rfl, .inr ⟨by decide, by decide⟩, _, rfl, _, _, rfl, rfl, _, rfl, _, _, rfl, rfl, .inl ⟨_, rfl, _, rfl, _, _, rfl, rfl, (by show q ≠ 0; omega), ?_⟩⟩
        refine ⟨rfl, _, _, ?_, rfl⟩
        show 0 ≤ Int.fmod (b * 69621 + c + (turn + 1)) q ∧ Int.fmod (b * 69621 + c + (turn + 1)) q < _
        rw [Int.fmod_eq_emod_of_nonneg _ (by omega)]
        have := Int.emod_nonneg (b * 69621 + c + (turn + 1)) (b := q) (by omega)
        have := Int.emod_lt_of_pos (b * 69621 + c + (turn + 1)) hq1
        omega
      · rintro σ H3 ⟨rfl, b, z, hb, rfl⟩
        refine ⟨_, rfl, _, _, rfl, rfl, .inr ⟨by decide, by decide⟩, _, rfl, _, _, rfl, rfl, ⟨by decide, by decide, ?_⟩, .inl ⟨_, rfl, _, rfl, _, _, rfl, rfl, (by show q ≠ 0; omega), _, _, rfl, rfl, ?_⟩⟩
        · show b.natAbs < 2 ^ 64
          omega
        · exact ⟨rfl, _, _, _, _, rfl⟩
    · rintro σ H' ⟨rfl, f, x, y, z, rfl⟩
      exact ⟨_, rfl, k f _ hk2 ⟨hne, wide, cells, rest, turn + 1, hd2, ha2, hc2, h4, h5, h6, by omega, by omega⟩⟩
abbrev Ntake : List Str := ["_law_draw", "_law_many", "_law_found"]
theorem sctake : FnScope Ntake ["_law_draw", "_law_many"] (defScope stake) := ⟨rfl, rfl, rfl, by decide +kernel, rfl, by decide +kernel, by decide +kernel⟩
def spTake : Sp := fun vs H Q _ => ∃ (d aw ac : Addr) (n m : Int), vs = [.ref d, .int m] ∧ Draw H d aw ac n ∧ n < 1000000000000 ∧ (0 < m ∧ m < 1073741824) ∧
  ∀ (r : Int) H', 0 ≤ r → r < m → Keep d aw H H' → Draw H' d aw ac (n + 1) → Q (.int r) H'
theorem c_take (T : Tx sx K mg) : Cal P w K mg base "_law_take" 2 ["_law_draw", "_law_many"] spTake := by
  refine T.cal 5 rfl (by decide +kernel) sctake (fun vs H Q E h => ?_) (fun _ _ _ _ _ _ us hl => match us, hl with | [_, _], _ => rfl) (fun cdv A outer s H vs Q E hr h => ?_)
  · obtain ⟨d, aw, ac, n, m, rfl, _⟩ := h
    rfl
  · obtain ⟨d, aw, ac, n, m, rfl, D, hn, hm, k⟩ := h
    obtain ⟨hne, wide, cells, rest, turn, h1, h2, h3, h4, h5, h6, h7, h8⟩ := D
    have hu := hu_of hr
    refine ⟨_, (pss_cons (ps_if (pt_cmpR op_eq (pe_dget hu (pv 0) pe_str (fun _ _ => rfl)) pe_int (nomark _)) (pss_one (ps_dput hu (pv 0) pe_str (pe_ifExp (pt_cmpR (op_neD hr.units) (pe_dget hu (pv 0) pe_str (fun _ _ => rfl)) (pe_lst pa_nil) (nomark _)) (pe_bm PySem.F.plainAttrs_list PySem.F.slot_list_pop PySem.F.type_list_pop mt_popAt (pe_dget hu (pv 0) pe_str (fun _ _ => rfl)) (pa_cons pe_int pa_nil)) (pe_cal (c_mixed T) hr (pa_cons (pv 0) pa_nil))) rfl)) pss_nil)
    (pss_cons (ps_set (i := 2) sctake.nd rfl (Or.inl rfl) (pe_op op_modN (pe_callTy call_int1 (by rfl) (T.free "int") (by decide +kernel) (pa_cons (pe_dget hu (pv 0) pe_str (fun _ _ => rfl)) pa_nil)) (pv 1)))
    (pss_cons (ps_dput hu (pv 0) pe_str (pe_op op_fdivN (pe_dget hu (pv 0) pe_str (fun _ _ => rfl)) (pv 1)) rfl)
    (pss_one (ps_ret (pv 2)))))), ?_⟩
    have nda : aw ≠ d := ne_of h2 h1 (fun e => by cases e)
    have ndc : ac ≠ d := ne_of h3 h1 (fun e => by cases e)
    have tail : ∀ H', Draw H' d aw ac (n + 1) → Keep d aw H H' →
        (tSeq (tAsg (tOp (rI (fun _ j => j ≠ 0) fun i j => V.int (i.fmod j)) (tCB (fun xs H Q => (∃ i, xs = [V.int i] ∧ Q (V.int i) H) ∨ ∃ k, xs = [V.bl k] ∧ Q (V.int (if k = true then 1 else 0)) H) (tCons (tDGet (tVar 0) (tC (V.str "rest"))) tNil)) (tVar 1)) (gName 2))
          (tSeq (sDPut (tVar 0) (tC (V.str "rest")) (tOp (rI CDivN fun i j => V.int (i.fdiv j)) (tDGet (tVar 0) (tC (V.str "rest"))) (tVar 1))) (tRet (tVar 2)))) { nx := fun _ H' => Q .non H', rt := Q } (start Ntake [V.ref d, V.int m]) H' := by
      intro H' DD KK
      obtain ⟨_, wide', cells', rest', turn', e1, e2, e3, e4, e5, e6, e7, e8⟩ := DD
      refine ⟨_, rfl, d, _, rfl, get_rest e1, .inl ⟨_, rfl, _, rfl, _, _, rfl, rfl, (by show m ≠ 0; omega), ?_⟩⟩
      refine ⟨_, rfl, d, _, rfl, get_rest e1, _, rfl, _, _, rfl, rfl, ⟨by show m ≠ 0; omega, by show m.natAbs < 1073741824; omega⟩, ?_⟩
      refine ⟨_, rfl, d, _, rfl, set_rest e1 _, _, rfl, ?_⟩
      refine k _ _ ?_ ?_ ?_ ?_
      · rw [Int.fmod_eq_emod_of_nonneg _ (by omega)]
        exact Int.emod_nonneg _ (by omega)
      · rw [Int.fmod_eq_emod_of_nonneg _ (by omega)]
        exact Int.emod_lt_of_pos _ (by omega)
      · exact fun b o e n1 n2 => by
          rw [upd_ne n1]
          exact KK b o e n1 n2
      · exact ⟨hne, wide', cells', _, turn', upd_same, by rw [upd_ne nda]; exact e2, by rw [upd_ne ndc]; exact e3, e4, e5, e6, e7, e8⟩
    refine ⟨_, rfl, d, _, rfl, get_rest h1, rfl, _, rfl, ?_⟩
    refine ite2 (fun _ => ?_) (fun _ => ?_)
    · refine ⟨_, rfl, d, _, rfl, get_wide h1, Nat.zero_le _, fun p hp => ?_⟩
      have npd : d ≠ p := ne_of_none h1 hp
      have npa : aw ≠ p := ne_of_none h2 hp
      have npc : ac ≠ p := ne_of_none h3 hp
      have D1 : Draw (upd H p (.lst [])) d aw ac n := ⟨hne, wide, cells, rest, turn, by rw [upd_ne npd]; exact h1, by rw [upd_ne npa]; exact h2, by rw [upd_ne npc]; exact h3, h4, h5, h6, h7, h8⟩
      have K1 : Keep d aw H (upd H p (.lst [])) := Same.keep (Same.new hp)
      have hp1 : upd H p (.lst []) p = some (.lst []) := upd_same
      have h1' : upd H p (.lst []) d = some (.dK (dk aw ac rest turn)) := by rw [upd_ne npd]; exact h1
      have h2' : upd H p (.lst []) aw = some (.lst (wide.map V.int)) := by rw [upd_ne npa]; exact h2
      have h3' : upd H p (.lst []) ac = some (.lst (cells.map V.int)) := by rw [upd_ne npc]; exact h3
      generalize upd H p (.lst []) = H1 at *
      refine ⟨_, _, .lst (.inl (.inl h2')) (ints_dp wide), .lst (.inl (.inl hp1)) .nil, ints_shaped wide, by decide +kernel, _, rfl, ?_⟩
      refine ite2 (fun hw => ?_) (fun _ => ?_)
      · rw [ints_eqv_nil] at hw
        obtain ⟨x, xs, rfl⟩ : ∃ x xs, wide = x :: xs := by
          cases wide with
          | nil => cases hw
          | cons x xs => exact ⟨x, xs, rfl⟩
        refine ⟨_, rfl, d, _, rfl, get_wide h1', (Or.inl ⟨rfl, _, .inl (.inl h2')⟩), aw, _, 0, 0, _, rfl, rfl, h2', by decide, by decide, ?_, rfl, ?_⟩
        · show (if (0 : Int) ≤ 0 && (0 : Int) < ((List.map V.int (x :: xs)).length : Nat) then some (0 : Int).toNat else none) = some 0
          rw [if_pos (by rw [List.length_map]; show (true && decide _) = true; rw [Bool.true_and]; exact decide_eq_true (by show (0 : Int) < ((xs.length + 1 : Nat) : Int); omega))]
          rfl
        · have e1 : upd H1 aw (.lst (xs.map V.int)) d = some (.dK (dk aw ac rest turn)) := by rw [upd_ne nda.symm]; exact h1'
          refine ⟨_, rfl, d, _, rfl, set_rest e1 x, ?_⟩
          have D2 : Draw (upd (upd H1 aw (.lst (xs.map V.int))) d (.dK (dk aw ac x turn))) d aw ac n := ⟨hne, xs, cells, x, turn, upd_same, by rw [upd_ne nda]; exact upd_same, by rw [upd_ne ndc, upd_ne hne.symm]; exact h3', Nat.le_of_succ_le h4, h5, h6, h7, h8⟩
          have K2 : Keep d aw H (upd (upd H1 aw (.lst (xs.map V.int))) d (.dK (dk aw ac x turn))) := fun b o e n1 n2 => by
            rw [upd_ne n1, upd_ne n2]
            exact K1 b o e n1 n2
          exact tail _ (D2.mono (by omega)) K2
      · refine ⟨_, rfl, d, aw, ac, n, rfl, D1, hn, fun r H2 KK DD => ?_⟩
        obtain ⟨_, wide', cells', rest', turn', e1, e2, e3, e4, e5, e6, e7, e8⟩ := DD
        refine ⟨_, rfl, d, _, rfl, set_rest e1 r, ?_⟩
        have D2 : Draw (upd H2 d (.dK (dk aw ac r turn'))) d aw ac (n + 1) := ⟨hne, wide', cells', r, turn', upd_same, by rw [upd_ne nda]; exact e2, by rw [upd_ne ndc]; exact e3, e4, e5, e6, e7, e8⟩
        have K2 : Keep d aw H (upd H2 d (.dK (dk aw ac r turn'))) := fun b o e n1 n2 => by
          rw [upd_ne n1]
          exact (K1.trans KK) b o e n1 n2
        exact tail _ D2 K2
    · exact tail _ ⟨hne, wide, cells, rest, turn, h1, h2, h3, h4, h5, h6, h7, by omega⟩ (Keep.refl d aw H)
abbrev Npick : List Str := ["_law_draw", "_law_some"]
theorem scpick : FnScope Npick ["_law_draw", "_law_some"] (defScope spick) := ⟨rfl, rfl, rfl, by decide +kernel, rfl, by decide +kernel, by decide +kernel⟩
/-- .. of a list -/
def spPick (K : PySem.W.Frag) : Sp := fun vs H Q _ => ∃ (d aw ac p : Addr) (n : Int) (xs : List V), vs = [.ref d, .ref p] ∧ Draw H d aw ac n ∧ n < 1000000000000 ∧ SqL K H p xs ∧ p ≠ aw ∧ p ≠ d ∧ 0 < xs.length ∧ xs.length ≤ 1000000 ∧
  ∀ (i : Nat) (x : V) H', xs[i]? = some x → Keep d aw H H' → Draw H' d aw ac (n + 1) → Q x H'
theorem c_pick (T : Tx sx K mg) : Cal P w K mg base "_law_pick" 3 ["_law_draw", "_law_some"] (spPick K) := by
  refine T.cal 6 rfl (by decide +kernel) scpick (fun vs H Q E h => ?_) (fun _ _ _ _ _ _ us hl => match us, hl with | [_, _], _ => rfl) (fun cdv A outer s H vs Q E hr h => ?_)
  · obtain ⟨d, aw, ac, p, n, xs, rfl, _⟩ := h
    rfl
  · obtain ⟨d, aw, ac, p, n, xs, rfl, D, hn, hS, hpa, hpd, hl0, hl, k⟩ := h
    have hu := hu_of hr
    refine ⟨_, (pss_one (ps_ret (pe_ix ix_list (pv 1) (pe_cal (c_take T) hr (pa_cons (pv 0) (pa_cons (pe_callB call_len_seq (by rfl) (T.free "len") (by decide +kernel) (pa_cons (pv 1) pa_nil)) pa_nil))) (fun _ _ => rfl)))), ?_⟩
    refine ⟨_, rfl, _, rfl, _, rfl, p, xs, rfl, .inl hS, ?_⟩
    refine ⟨d, aw, ac, n, (xs.length : Int), rfl, D, hn, ⟨by omega, by omega⟩, fun r H' r1 r2 KK DD => ?_⟩
    have hlt : r.toNat < xs.length := by omega
    refine ⟨p, xs, r, xs[r.toNat], rfl, rfl, KK.seqL hS hpd hpa, ?_, k r.toNat _ H' (List.getElem?_eq_getElem hlt) KK DD⟩
    show (ixN xs.length r).bind (fun j => xs[j]?) = _
    unfold ixN
    rw [if_pos r1, if_pos (by omega)]
    exact List.getElem?_eq_getElem hlt
end
end K00

set_option maxHeartbeats 4000000
namespace K00
open PySem PySem.Spec PyProof.Rows L2 He Sa
section
variable {P : Program} {w : World} {K : PySem.W.Frag} {mg : Str → Option Value} {base : Heap}
theorem small_at (T : Tx sx K mg) : ∃ t, mg "SMALL" = some (.str smallS t) := by
  obtain ⟨h, X, G⟩ := T.at_
  exact str_ok X G (ba T.chk).1
theorem pieces_at (T : Tx sx K mg) : ∃ t, mg "PIECES" = some (.str piecesS t) := by
  obtain ⟨h, X, G⟩ := T.at_
  exact str_ok X G (ba (ba T.chk).2).1
theorem kept_at (T : Tx sx K mg) (H : Hp) : SqT K H (ga K "KEPT") (keptL.map V.str) := tupB_ok (x := "KEPT") (vs := keptL.map Dv.str) (ba (ba (ba T.chk).2).2).1 H
def low (c : Nat) : Bool := decide (c ∈ smallS.cps.toList)
def kp (z : Str) : Bool := inV (.str z) (keptL.map V.str)
/-- a text is a name -/
def isNm (z : Str) : Bool := (decide (1 ≤ z.length) && decide (z.length ≤ 8)) && (!kp z && z.cps.toList.all low)
/-- no text -/
def NoStr (K : PySem.W.Frag) (H : Hp) (x : V) : Prop := ∃ t, TyX K H x (.type t) ∧ kitB t "str" = some false
abbrev Nis_name : List Str := ["thing", "letter"]
theorem scis_name : FnScope Nis_name ["thing"] (defScope sis_name) := ⟨rfl, rfl, rfl, by decide +kernel, rfl, by decide +kernel, by decide +kernel⟩
def spIsName (K : PySem.W.Frag) : Sp := fun vs H Q _ => ∃ x, vs = [x] ∧ ((∃ z, x = .str z ∧ z.length ≤ 1000000 ∧ ∀ H', Same H H' → Q (.bl (isNm z)) H') ∨ (NoStr K H x ∧ Q (.bl false) H))
theorem c_is_name (T : Tx sx K mg) : Cal P w K mg base "is_name" 1 ["thing"] (spIsName K) := by
  refine T.cal 0 rfl (by decide +kernel) scis_name (fun vs H Q E h => ?_) (fun _ _ _ _ _ _ us hl => match us, hl with | [_], _ => rfl) (fun cdv A outer s H vs Q E hr h => ?_)
  · obtain ⟨x, rfl, _⟩ := h
    rfl
  · obtain ⟨ts, hts⟩ := small_at T
    refine ⟨_, (pss_cons (ps_if (PW.pt (pw_or (pt_not (pt_val (pe_callB call_isi (by rfl) (T.free "isinstance") (by decide +kernel) (pa_cons (pv 0) (pa_cons (pe_bltn (v := .ty "str") (by rfl) (T.free "str") (by decide +kernel) rfl) pa_nil))))) (pw_or (pt_not (pt_chain op_le op_le pe_int (pe_callB call_len_str (by rfl) (T.free "len") (by decide +kernel) (pa_cons (pv 0) pa_nil)) pe_int)) (pw_or1 (pt_cmpR op_in_seq (pv 0) (pe_glob (v := .ref (ga K "KEPT")) rfl (T.glo "KEPT") rfl) (by rfl)))))) (pss_one (ps_ret pe_bl)) pss_nil)
    (pss_one (ps_ret (pe_callB (cr_all rfl) (by rfl) (T.free "all") (by decide +kernel) (pa_cons (pe_lc (own := [("letter", 1)]) (g := gName 1) (tt := tYes) rfl scis_name.nd (pi_str (pv 0)) (blkOk_by (N := Nis_name) (sc := defScope sis_name) (by decide +kernel)) (fun _ _ _ _ _ => (pg_name (i := 1) scis_name.nd rfl (Or.inl rfl))) (fun _ _ _ _ _ => pts_nil) (fun _ _ _ _ _ => (pe_cmpR op_in_sign (pv 1) (pe_glob (v := .str smallS) rfl hts ⟨_, rfl⟩) (by rfl)))) pa_nil))))), ?_⟩
    obtain ⟨x, rfl, ⟨z, rfl, hz, k⟩ | ⟨⟨t, ht, hk⟩, k⟩⟩ := h
    · refine ⟨_, rfl, _, _, _, _, true, rfl, .ty _, .base (.str z), kit_ty (by decide +kernel), _, rfl, ?_⟩
      refine iteF ?_
      refine ⟨_, rfl, z, rfl, Nat.le_trans hz (by decide), _, _, rfl, rfl, _, rfl, ?_⟩
      have no : isNm z = false → Q (.bl false) H := fun e => by
        have q := k H (Same.refl H)
        rw [e] at q
        exact q
      refine ite2 (fun a1 => ?_) (fun a1 => ?_)
      · have a1 := of_decide_eq_true a1
        refine ⟨_, _, rfl, rfl, _, rfl, ?_⟩
        by_cases a2 : z.length ≤ 8
        · rw [decide_eq_true (show ((z.length : Nat) : Int) ≤ 8 by omega)]
          refine iteF ?_
          refine ⟨_, rfl, ga K "KEPT", keptL.map V.str, rfl, .inr (kept_at T H), rfl, by decide +kernel, _, rfl, ?_⟩
          refine ite2 (fun a3 => ?_) (fun a3 => ?_)
          · refine no ?_
            unfold isNm kp
            rw [show inV (.str z) (keptL.map V.str) = true from a3]
            simp
          · refine ⟨_, rfl, z, rfl, fun D nD => lc_it walk_str (fun i H' => H' D = some (.lst (((z.cps.toList.take i).map low).map V.bl)) ∧ Same H H') ⟨upd_same, Same.new nD⟩ (fun _ _ _ _ => trivial) ?_ ?_⟩
            · rintro i x H1 H2 hi ⟨b1, b2⟩ ⟨rfl, c, hc, rfl⟩
              have hc2 : z.cps.toList[i]? = some c := by rw [Array.getElem?_toList]; exact hc
              refine ⟨rfl, ?_⟩
              delta tYes
              refine ifT ?_
              refine ⟨_, rfl, c, smallS, rfl, rfl, _, b1, ?_, ?_, ?_⟩
              · rw [List.length_map, List.length_map, List.length_take]
                exact small1000 (Nat.le_trans (Nat.min_le_right _ _) (Nat.le_trans a2 (by decide)))
              · rw [upd_same, take_snoc hc2, List.map_append, List.map_append]
                rfl
              · exact fun b o e => by
                  rw [upd_ne (ne_of_none e nD)]
                  exact b2 b o e
            · rintro H1 ⟨b1, b2⟩
              rw [List.take_of_length_le (by simp)] at b1
              refine ⟨D, z.cps.toList.map low, rfl, .inl (.inl b1), ?_⟩
              have q := k H1 b2
              have e : isNm z = (z.cps.toList.map low).all id := by
                unfold isNm kp
                rw [show inV (.str z) (keptL.map V.str) = false from (Bool.eq_false_iff.mpr a3), decide_eq_true a2, decide_eq_true (show 1 ≤ z.length by omega), List.all_map]
                rfl
              rw [e] at q
              exact q
        · rw [decide_eq_false (show ¬ ((z.length : Nat) : Int) ≤ 8 by omega)]
          refine no ?_
          unfold isNm
          rw [decide_eq_false a2, Bool.and_false, Bool.false_and]
      · have a1 : ¬ (1 : Int) ≤ ((z.length : Nat) : Int) := fun e => a1 (decide_eq_true e)
        refine ⟨_, rfl, ?_⟩
        refine no ?_
        unfold isNm
        rw [decide_eq_false (show ¬ 1 ≤ z.length by omega), Bool.false_and, Bool.false_and]
    · refine ⟨_, rfl, _, _, _, _, false, rfl, .ty _, ht, kit_ty hk, _, rfl, ?_⟩
      exact k
end
end K00

set_option maxHeartbeats 4000000
namespace K00
open PySem PySem.Spec PyProof.Rows L2 He Sa NdefX
section
variable {P : Program} {w : World} {K : PySem.W.Frag} {mg : Str → Option Value} {base : Heap}
abbrev d_BadText : SupD := ⟨"BadText", "BadText.__init__", defArgs iBadText, defBody iBadText, defScope iBadText, ["line", "column", "wanted"]⟩
theorem nsc_BadText : NScope ["self", "line", "column", "wanted", "__class__"] ["self", "line", "column", "wanted"] ["__class__"] (defScope iBadText) := nscope_by (by decide +kernel)
theorem f_BadText (T : Tx sx K mg) (p : Pok P) : SupF P w K mg base d_BadText ["self", "line", "column", "wanted"] (spFld (ga K "BadText") ["line", "column", "wanted"]) := by
  obtain ⟨⟨fd, S⟩, X, n⟩ := T.sup 0 (P := P) (d := d_BadText) p.file rfl
  refine ⟨⟨fd, fn_super (N := ["self", "line", "column", "wanted", "__class__"]) nsc_BadText S (T.free "super") (by rfl) p.top rfl rfl (fun vs H Q E h => ?_) rfl (fun L => ⟨_, rfl⟩) (fun _ => rfl) (fun _ => rfl) (fun vs H Q E h => ?_) (fun A outer s H vs Q E hr h => ?_), ?_, S⟩⟩
  · exact len_spFld h
  · obtain ⟨a, ys, rfl, _, ha, _⟩ := h
    exact ⟨a, _, rfl, ha⟩
  · obtain ⟨a, ys, rfl, hl, ha, k⟩ := h
    obtain ⟨v0, v1, v2, rfl⟩ := len3 hl
    refine ⟨_, (pss_cons (ps_ost (pv 0) (pv 1)) (pss_cons (ps_ost (pv 0) (pv 2)) (pss_one (ps_ost (pv 0) (pv 3))))), ?_⟩
    refine ⟨_, rfl, _, rfl, a, _, rfl, S.oex, n _ (by decide +kernel), .inl ⟨ha, fun dx n1 n2 => ?_⟩⟩
    have z1 := fld_new (H := H) (C := ga K "BadText") (f := "line") (v := v0) n2
    refine ⟨_, rfl, _, rfl, a, _, rfl, S.oex, n _ (by decide +kernel), .inr ⟨dx, _, z1.1, z1.2.1, (Nat.le_of_ble_eq_true rfl), ?_⟩⟩
    have z2 := fld_more (f := "column") (v := v1) n2 z1
    refine ⟨_, rfl, _, rfl, a, _, rfl, S.oex, n _ (by decide +kernel), .inr ⟨dx, _, z2.1, z2.2.1, (Nat.le_of_ble_eq_true rfl), ?_⟩⟩
    have z3 := fld_more (f := "wanted") (v := v2) n2 z2
    exact k dx _ n1 n2 z3.1 z3.2.1 z3.2.2
  · obtain ⟨oc, od, doc, pm, ctv, an, osl, rfl, lk⟩ := S.lk
    exact Binds.all fun us hl => match us, hl with | [_, _, _, _], _ => rfl

theorem sign_eq (c d : Nat) : decide (V.str ⟨#[c]⟩ = V.str ⟨#[d]⟩) = decide (c = d) := by
  by_cases h : c = d
  · subst h
    rw [decide_eq_true rfl, decide_eq_true rfl]
  · rw [decide_eq_false h, decide_eq_false]
    intro e
    have z := congrArg (fun a : Array Nat => a[0]?) (congrArg Str.cps (V.str.inj e))
    exact h (Option.some.inj z)
/-- a sign of a text -/
def txo (c : Nat) : Bool := decide (c = 10) || (!decide ([c] < [32]) && !decide ([126] < [c]))
def isTx (z : Str) : Bool := z.cps.toList.all txo
abbrev Nis_text : List Str := ["thing", "sign"]
theorem scis_text : FnScope Nis_text ["thing"] (defScope sis_text) := ⟨rfl, rfl, rfl, by decide +kernel, rfl, by decide +kernel, by decide +kernel⟩
def spIsText (K : PySem.W.Frag) : Sp := fun vs H Q _ => ∃ x, vs = [x] ∧ ((∃ z, x = .str z ∧ z.length ≤ 1000000 ∧ ∀ H', Same H H' → Q (.bl (isTx z)) H') ∨ (NoStr K H x ∧ Q (.bl false) H))
theorem c_is_text (T : Tx sx K mg) : Cal P w K mg base "is_text" 1 ["thing"] (spIsText K) := by
  refine T.cal 1 rfl (by decide +kernel) scis_text (fun vs H Q E h => ?_) (fun _ _ _ _ _ _ us hl => match us, hl with | [_], _ => rfl) (fun cdv A outer s H vs Q E hr h => ?_)
  · obtain ⟨x, rfl, _⟩ := h
    rfl
  · refine ⟨_, (pss_one (ps_ret (pe_and (pe_callB call_isi (by rfl) (T.free "isinstance") (by decide +kernel) (pa_cons (pv 0) (pa_cons (pe_bltn (v := .ty "str") (by rfl) (T.free "str") (by decide +kernel) rfl) pa_nil))) (pe_one (pe_callB (cr_all rfl) (by rfl) (T.free "all") (by decide +kernel) (pa_cons (pe_lc (own := [("sign", 1)]) (g := gName 1) (tt := tYes) rfl scis_text.nd (pi_str (pv 0)) (blkOk_by (N := Nis_text) (sc := defScope sis_text) (by decide +kernel)) (fun _ _ _ _ _ => (pg_name (i := 1) scis_text.nd rfl (Or.inl rfl))) (fun _ _ _ _ _ => pts_nil) (fun _ _ _ _ _ => (pe_or (pe_cmpR op_eq (pv 1) pe_str (nomark _)) (pe_one (pe_chain op_le_str op_le_str pe_str (pv 1) pe_str))))) pa_nil)))))), ?_⟩
    obtain ⟨x, rfl, ⟨z, rfl, hz, k⟩ | ⟨⟨t, ht, hk⟩, k⟩⟩ := h
    · refine ⟨_, rfl, _, _, _, _, true, rfl, .ty _, .base (.str z), kit_ty (by decide +kernel), _, rfl, ?_⟩
      refine iteT ?_
      refine ⟨_, rfl, z, rfl, fun D nD => lc_it walk_str (fun i H' => H' D = some (.lst (((z.cps.toList.take i).map txo).map V.bl)) ∧ Same H H') ⟨upd_same, Same.new nD⟩ (fun _ _ _ _ => trivial) ?_ ?_⟩
      · rintro i x H1 H2 hi ⟨b1, b2⟩ ⟨rfl, c, hc, rfl⟩
        have hc2 : z.cps.toList[i]? = some c := by rw [Array.getElem?_toList]; exact hc
        refine ⟨rfl, ?_⟩
        delta tYes
        refine ifT ?_
        have fin : ∀ b, b = txo c → ∃ acc, H2 D = some (HO.lst acc) ∧ acc.length < sizeLine ∧ (upd H2 D (HO.lst (acc ++ [V.bl b])) D = some (HO.lst (((z.cps.toList.take (i + 1)).map txo).map V.bl)) ∧ Same H (upd H2 D (HO.lst (acc ++ [V.bl b])))) := by
          rintro b rfl
          refine ⟨_, b1, ?_, ?_, ?_⟩
          · rw [List.length_map, List.length_map, List.length_take]
            exact Nat.lt_of_le_of_lt (Nat.min_le_right _ _) (Nat.lt_of_le_of_lt (show z.cps.toList.length ≤ 1000000 by rw [Array.length_toList]; exact hz) (by decide))
          · rw [upd_same, take_snoc hc2, List.map_append, List.map_append]
            rfl
          · exact fun b o e => by
              rw [upd_ne (ne_of_none e nD)]
              exact b2 b o e
        refine ⟨_, rfl, rfl, _, rfl, ?_⟩
        rw [show decide (V.str ⟨#[c]⟩ = V.str (Str.ofString "\n")) = decide (c = 10) from sign_eq c 10]
        refine ite2 (fun a1 => ?_) (fun a1 => ?_)
        · refine fin true ?_
          unfold txo
          rw [a1]
          rfl
        · have e0 : txo c = (!decide ([c] < [32]) && !decide ([126] < [c])) := by
            unfold txo
            rw [Bool.eq_false_iff.mpr a1, Bool.false_or]
          refine ⟨_, rfl, _, _, rfl, rfl, _, rfl, ?_⟩
          refine ite2 (fun a2 => ?_) (fun a2 => ?_)
          · refine ⟨_, _, rfl, rfl, fin _ ?_⟩
            rw [e0]
            have a2' : (!decide ([c] < [32])) = true := a2
            rw [a2', Bool.true_and]
            rfl
          · refine fin false ?_
            rw [e0]
            have a2' : (!decide ([c] < [32])) = false := Bool.eq_false_iff.mpr a2
            rw [a2', Bool.false_and]
      · rintro H1 ⟨b1, b2⟩
        rw [List.take_of_length_le (by simp)] at b1
        refine ⟨D, z.cps.toList.map txo, rfl, .inl (.inl b1), ?_⟩
        have q := k H1 b2
        have e : isTx z = (z.cps.toList.map txo).all id := by
          unfold isTx
          rw [List.all_map]
          rfl
        rw [e] at q
        exact q
    · refine ⟨_, rfl, _, _, _, _, false, rfl, .ty _, ht, kit_ty hk, _, rfl, ?_⟩
      exact k
end
end K00

set_option maxHeartbeats 4000000
namespace K00
open PySem PySem.Spec PyProof.Rows L2 He Sa NdefX
/-- a word, its line, its column -/
abbrev Wd : Type := List Nat × Int × Int
def inP (c : Nat) : Bool := decide (c ∈ piecesS.cps.toList)
/-- the last word goes on by c -/
def wGrow (ws : List Wd) (c : Nat) : List Wd := match ws.getLast? with
  | some d => ws.dropLast ++ [(d.1 ++ [c], d.2)]
  | none => ws
def wPut (ws : List Wd) (l k : Int) (op : Bool) (c : Nat) : List Wd := if (op && inP c) = true then wGrow ws c else if (!decide (c = 32) && !decide (c = 10)) = true then ws ++ [([c], l, k)] else ws
structure WS where
  ws : List Wd
  l : Int
  k : Int
  op : Bool
def wStep (s : WS) (c : Nat) : WS := ⟨wPut s.ws s.l s.k s.op c, if c = 10 then s.l + 1 else s.l, if c = 10 then 1 else s.k + 1, inP c⟩
def wRun (cs : List Nat) : WS := cs.foldl wStep ⟨[], 1, 1, false⟩
/-- what stands between the turns -/
structure WOk (s : WS) (i : Nat) : Prop where
  op : s.op = true → s.ws ≠ []
  len : s.ws.length ≤ i
  wl : ∀ d ∈ s.ws, d.1.length ≤ i
theorem in_sign {c : Nat} (h : inP c = true) : c ≠ 32 ∧ c ≠ 10 := by
  constructor
  · rintro rfl
    exact absurd h (by decide +kernel)
  · rintro rfl
    exact absurd h (by decide +kernel)
theorem wPut_ne {ws : List Wd} {l k : Int} {op : Bool} {c : Nat} (h : inP c = true) (ho : op = true → ws ≠ []) : wPut ws l k op c ≠ [] := by
  unfold wPut
  split
  · rename_i e
    unfold wGrow
    split
    · simp
    · rename_i e2
      cases op with
      | false => cases e
      | true =>
        have z := ho rfl
        rw [List.getLast?_eq_none_iff] at e2
        exact absurd e2 z
  · rw [if_pos]
    · simp
    · obtain ⟨h1, h2⟩ := in_sign h
      rw [decide_eq_false h1, decide_eq_false h2]
      rfl
theorem wOk_step {s : WS} {i c : Nat} (h : WOk s i) : WOk (wStep s c) (i + 1) := by
  obtain ⟨h1, h2, h3⟩ := h
  refine ⟨fun e => wPut_ne e h1, ?_, ?_⟩
  · show (wPut s.ws s.l s.k s.op c).length ≤ i + 1
    unfold wPut wGrow
    split
    · split
      · rename_i d e
        have z : 0 < s.ws.length := List.length_pos_iff.mpr (fun q => by rw [q] at e; cases e)
        rw [List.length_append, List.length_dropLast]
        show s.ws.length - 1 + 1 ≤ i + 1
        omega
      · omega
    · split
      · rw [List.length_append]
        show s.ws.length + 1 ≤ i + 1
        omega
      · omega
  · intro d hd
    have hd : d ∈ wPut s.ws s.l s.k s.op c := hd
    unfold wPut wGrow at hd
    split at hd
    · split at hd
      · rename_i e
        rcases List.mem_append.mp hd with m | m
        · exact Nat.le_succ_of_le (h3 d (List.dropLast_subset _ m))
        · rw [List.mem_singleton.mp m]
          show (_ ++ [c]).length ≤ i + 1
          rw [List.length_append]
          exact Nat.succ_le_succ (h3 _ (List.mem_of_getLast? e))
      · exact Nat.le_succ_of_le (h3 d hd)
    · split at hd
      · rcases List.mem_append.mp hd with m | m
        · exact Nat.le_succ_of_le (h3 d m)
        · rw [List.mem_singleton.mp m]
          show 1 ≤ i + 1
          omega
      · exact Nat.le_succ_of_le (h3 d hd)
theorem wRun_snoc {cs : List Nat} {i c : Nat} (h : cs[i]? = some c) : wRun (cs.take (i + 1)) = wStep (wRun (cs.take i)) c := by
  unfold wRun
  rw [take_snoc h, List.foldl_append]
  rfl
theorem wRun_ok (cs : List Nat) : ∀ i, i ≤ cs.length → WOk (wRun (cs.take i)) i
  | 0, _ => ⟨(fun h => by cases h), Nat.le_refl _, fun d h => by cases h⟩
  | i + 1, h => by
    rw [wRun_snoc (List.getElem?_eq_getElem (Nat.lt_of_succ_le h))]
    exact wOk_step (wRun_ok cs i (Nat.le_of_succ_le h))
/-- the words of a text -/
def wordsF (z : Str) : List Wd := (wRun z.cps.toList).ws
/-- a word as a tuple -/
def Tup (H : Hp) (r : Addr) (d : Wd) : Prop := H r = some (.tup [.str ⟨d.1.toArray⟩, .int d.2.1, .int d.2.2])
theorem Tup.same {H H' : Hp} (s : Same H H') {r : Addr} {d : Wd} (h : Tup H r d) : Tup H' r d := s _ _ h
section
variable {P : Program} {w : World} {K : PySem.W.Frag} {mg : Str → Option Value} {base : Heap}
abbrev Nwords_of : List Str := ["text", "found", "line", "column", "is_open", "sign", "goes_on", "word", "row", "place"]
theorem scwords_of : FnScope Nwords_of ["text"] (defScope swords_of) := ⟨rfl, rfl, rfl, by decide +kernel, rfl, by decide +kernel, by decide +kernel⟩
/-- a list of words at p, new beside H -/
def WordsAt (H : Hp) (p : Addr) (ds : List Wd) (H' : Hp) : Prop := H p = none ∧ Same H (del H' p) ∧ ∃ rs : List Addr, H' p = some (.lst (rs.map V.ref)) ∧ Al (Tup (del H' p)) rs ds
def spWords (K : PySem.W.Frag) : Sp := fun vs H Q E => ∃ x, vs = [x] ∧ ((∃ z, x = .str z ∧ z.length ≤ 100000 ∧ isTx z = true ∧ ∀ p H', WordsAt H p (wordsF z) H' → Q (.ref p) H') ∨
  (((∃ z, x = .str z ∧ z.length ≤ 100000 ∧ isTx z = false) ∨ NoStr K H x) ∧ ∀ d H', H d = none → Same H H' → H' d = some (.xd [("wanted", .non), ("column", .non), ("line", .non)]) → E (.ref (ga K "BadText")) (some d) H'))
theorem s_turn {D : Ends} {H' : Hp} {c : Nat} {l k : Int} {x0 x1 x4 x6 x7 x8 x9 : Option V}
    (kk : ∀ t xs, H' t = none → D.nx [x0, x1, some (.int (if c = 10 then l + 1 else l)), some (.int (if c = 10 then 1 else k + 1)), some (.bl (inP c)), some (.str ⟨#[c]⟩), x6, x7, x8, x9] (upd H' t (.tup xs))) :
    tSeq (tAsg (tOp (fun x y H Q => ∃ c z, x = V.str ⟨#[c]⟩ ∧ y = V.str z ∧ Q (V.bl (decide (c ∈ z.cps.toList))) H) (tVar 5) (tC (V.str piecesS))) (gName 4))
      (tAsg (tIf (tTest (tOp rEq (tVar 5) (tC (V.str "\n")))) (tTup (tCons (tOp (rI0 fun i j => V.int (i + j)) (tVar 2) (tC (V.int 1))) (tCons (tC (V.int 1)) tNil))) (tTup (tCons (tVar 2) (tCons (tOp (rI0 fun i j => V.int (i + j)) (tVar 3) (tC (V.int 1))) tNil)))) (gTup K 2 (gCons (gName 2) (gCons (gName 3) gNil))))
      D [x0, x1, some (.int l), some (.int k), x4, some (.str ⟨#[c]⟩), x6, x7, x8, x9] H' := by
  refine ⟨_, rfl, c, piecesS, rfl, rfl, _, rfl, rfl, _, rfl, ?_⟩
  rw [show decide (V.str ⟨#[c]⟩ = V.str (Str.ofString "\n")) = decide (c = 10) from sign_eq c 10]
  refine ite2 (fun a1 => ?_) (fun a1 => ?_)
  · have a1 := of_decide_eq_true a1
    refine ⟨_, rfl, _, _, rfl, rfl, by show 2 ≤ sizeLine; decide, fun t ht => ?_⟩
    refine ⟨t, _, rfl, .inl (.inl upd_same), rfl, _, _, rfl, _, _, rfl, rfl, ?_⟩
    have z := kk t [.int (l + 1), .int 1] ht
    rw [if_pos a1, if_pos a1] at z
    exact z
  · have a1 : ¬ c = 10 := fun e => a1 (decide_eq_true e)
    refine ⟨_, rfl, _, rfl, _, _, rfl, rfl, by show 2 ≤ sizeLine; decide, fun t ht => ?_⟩
    refine ⟨t, _, rfl, .inl (.inl upd_same), rfl, _, _, rfl, _, _, rfl, rfl, ?_⟩
    have z := kk t [.int l, .int (k + 1)] ht
    rw [if_neg a1, if_neg a1] at z
    exact z
theorem s_body {K : PySem.W.Frag} {D : Ends} {R : TS} {H H2 : Hp} {p : Addr} {rs : List Addr} {ws : List Wd} {l k : Int} {op b : Bool} {c i : Nat} {x0 x7 x8 x9 : Option V} (eb : b = (op && inP c)) (OK : WOk ⟨ws, l, k, op⟩ i) (hi : i ≤ 100000)
    (h1 : H2 p = some (.lst (rs.map V.ref))) (h2 : Al (Tup (del H2 p)) rs ws) (h3 : Same H (del H2 p))
    (kk : ∀ H4 rs' x7 x8 x9, H4 p = some (.lst (rs'.map V.ref)) → Al (Tup (del H4 p)) rs' (wPut ws l k op c) → Same H (del H4 p) → R D [x0, some (.ref p), some (.int l), some (.int k), some (.bl op), some (.str ⟨#[c]⟩), some (.bl b), x7, x8, x9] H4) :
    tSeq (tIfS (tB (tVar 6)) (tSeq (tAsg (tBM0 K "list" rPop (tVar 1)) (gTup K 3 (gCons (gName 7) (gCons (gName 8) (gCons (gName 9) gNil)))))
        (tDrop (tBM K "list" rAppend (tVar 1) (tCons (tTup (tCons (tOp (fun x y H Q => ∃ i j, x = V.str i ∧ y = V.str j ∧ i.length + j.length ≤ sizeLine ∧ Q (V.str (i ++ j)) H) (tVar 7) (tVar 5)) (tCons (tVar 8) (tCons (tVar 9) tNil)))) tNil))))
      (tIfS (tAnd (tTest (tOp rNe (tVar 5) (tC (V.str " ")))) (tTest (tOp rNe (tVar 5) (tC (V.str "\n"))))) (tDrop (tBM K "list" rAppend (tVar 1) (tCons (tTup (tCons (tVar 5) (tCons (tVar 2) (tCons (tVar 3) tNil)))) tNil))) tNext)) R D
      [x0, some (.ref p), some (.int l), some (.int k), some (.bl op), some (.str ⟨#[c]⟩), some (.bl b), x7, x8, x9] H2 := by
  refine ⟨_, rfl, b, rfl, ite2 (fun a => ?_) (fun a => ?_)⟩
  · have eo : op = true := by
      cases op with
      | true => rfl
      | false =>
        rw [a] at eb
        cases eb
    obtain ⟨d, ed⟩ : ∃ d, ws.getLast? = some d := by
      cases q : ws.getLast? with
      | none => exact absurd (List.getLast?_eq_none_iff.mp q) (OK.op eo)
      | some d => exact ⟨d, rfl⟩
    have ew : ws = ws.dropLast ++ [d] := by
      have ne := OK.op eo
      have q := List.dropLast_concat_getLast ne
      rw [List.getLast?_eq_some_getLast ne] at ed
      rw [← Option.some.inj ed]
      exact q.symm
    rw [ew] at h2
    obtain ⟨rs', r, rfl, g1, g2⟩ := h2.last
    have hr : H2 r = some (.tup [.str ⟨d.1.toArray⟩, .int d.2.1, .int d.2.2]) := del_sub _ _ g2
    have nrp : r ≠ p := ne_of hr h1 (fun e => by cases e)
    refine ⟨_, rfl, .inl ⟨rfl, _, .inl (.inl h1)⟩, p, _, .ref r, rfl, rfl, h1, ?_, ?_⟩
    · rw [List.map_append]
      simp
    refine ⟨r, _, rfl, .inl (.inl (by rw [upd_ne nrp]; exact hr)), rfl, _, _, rfl, _, _, rfl, _, _, rfl, rfl, ?_⟩
    have hdl : d.1.length ≤ i := OK.wl d (by rw [ew]; exact List.mem_append_right _ List.mem_cons_self)
    refine ⟨_, rfl, .inl ⟨rfl, _, .inl (.inl upd_same)⟩, _, rfl, _, rfl, _, _, rfl, rfl, ?_, _, rfl, _, rfl, by show 3 ≤ sizeLine; decide, fun t ht => ?_⟩
    · show d.1.toArray.size + 1 ≤ sizeLine
      rw [List.size_toArray]
      exact Nat.le_trans (Nat.succ_le_succ (Nat.le_trans hdl hi)) (by decide)
    have npt : p ≠ t := ne_of_none upd_same ht
    refine ⟨p, _, .ref t, rfl, rfl, by rw [upd_ne npt]; exact upd_same, ?_, ?_⟩
    · rw [List.map_append]
      simp only [List.map_cons, List.map_nil, List.dropLast_concat, List.length_map]
      have q := g1.length
      have q2 := OK.len
      have q3 : ws.length = ws.dropLast.length + 1 := by
        have z := congrArg List.length ew
        rw [List.length_append] at z
        exact z
      have q4 : ws.length ≤ i := q2
      exact Nat.lt_of_le_of_lt (show rs'.length ≤ 100000 by omega) (by decide)
    have ht0 : H2 t = none := by
      rw [upd_ne npt.symm] at ht
      exact ht
    have e5 : ∀ o, del (upd (upd (upd H2 p (.lst ((rs' ++ [r]).map V.ref).dropLast)) t o) p (.lst (((rs' ++ [r]).map V.ref).dropLast ++ [V.ref t]))) p = upd (del H2 p) t o := fun o => by
      rw [del_upd]
      funext b
      by_cases q : b = p
      · rw [q, del_same, upd_ne npt, del_same]
      · rw [del_ne q]
        by_cases q2 : b = t
        · rw [q2, upd_same, upd_same]
        · rw [upd_ne q2, upd_ne q, upd_ne q2, del_ne q]
    have hd0 : del H2 p t = none := by rw [del_ne npt.symm]; exact ht0
    refine kk _ (rs' ++ [t]) _ _ _ (by rw [upd_same, List.map_append]; simp) ?_ ?_
    · rw [e5]
      have e6 : wPut ws l k op c = ws.dropLast ++ [(d.1 ++ [c], d.2)] := by
        unfold wPut wGrow
        rw [← eb, if_pos a, ed]
      rw [e6]
      refine Al.snoc (g1.mono fun _ _ q => q.same (Same.new hd0)) ?_
      show upd _ t _ t = _
      rw [upd_same]
      show some (HO.tup [V.str (⟨d.1.toArray⟩ ++ ⟨#[c]⟩), _, _]) = some (HO.tup [V.str ⟨(d.1 ++ [c]).toArray⟩, _, _])
      have e7 : ((⟨d.1.toArray⟩ : Str) ++ ⟨#[c]⟩) = ⟨(d.1 ++ [c]).toArray⟩ := by
        show (⟨d.1.toArray ++ #[c]⟩ : Str) = _
        simp
      rw [e7]
    · rw [e5]
      exact Same.trans h3 (Same.new hd0)
  · have e6 : wPut ws l k op c = if (!decide (c = 32) && !decide (c = 10)) = true then ws ++ [([c], l, k)] else ws := by
      unfold wPut
      rw [← eb, if_neg a]
    refine ⟨_, rfl, rfl, _, rfl, ?_⟩
    rw [show decide (V.str ⟨#[c]⟩ = V.str (Str.ofString " ")) = decide (c = 32) from sign_eq c 32]
    have skip : (!decide (c = 32) && !decide (c = 10)) = false → R D [x0, some (.ref p), some (.int l), some (.int k), some (.bl op), some (.str ⟨#[c]⟩), some (.bl b), x7, x8, x9] H2 := fun e => by
      refine kk _ rs _ _ _ h1 ?_ h3
      rw [e6, e, if_neg (by decide)]
      exact h2
    refine ite2 (fun a1 => ?_) (fun a1 => ?_)
    · refine ⟨_, rfl, rfl, _, rfl, ?_⟩
      rw [show decide (V.str ⟨#[c]⟩ = V.str (Str.ofString "\n")) = decide (c = 10) from sign_eq c 10]
      refine ite2 (fun a2 => ?_) (fun a2 => ?_)
      · refine ⟨_, rfl, .inl ⟨rfl, _, .inl (.inl h1)⟩, _, rfl, _, rfl, _, rfl, by show 3 ≤ sizeLine; decide, fun t ht => ?_⟩
        have npt : p ≠ t := ne_of_none h1 ht
        have s4 := Same.new (o := .tup [.str ⟨#[c]⟩, .int l, .int k]) ht
        refine ⟨p, _, .ref t, rfl, rfl, s4 _ _ h1, ?_, ?_⟩
        · rw [List.length_map, h2.length]
          exact Nat.lt_of_le_of_lt (Nat.le_trans OK.len hi) (by decide)
        refine kk _ (rs ++ [t]) _ _ _ (by rw [upd_same, List.map_append]; rfl) ?_ ?_
        · rw [del_upd, e6, if_pos (by rw [a1, a2]; rfl)]
          refine Al.snoc (h2.mono fun _ _ q => q.same (del_mono s4)) ?_
          show del _ p t = _
          rw [del_ne npt.symm, upd_same]
        · rw [del_upd]
          exact Same.trans h3 (del_mono s4)
      · exact skip (by rw [Bool.eq_false_iff.mpr a2, Bool.and_false])
    · exact skip (by rw [Bool.eq_false_iff.mpr a1, Bool.false_and])
theorem c_words_of (T : Tx sx K mg) (p : Pok P) : Cal P w K mg base "words_of" 3 ["text"] (spWords K) := by
  refine T.calX 2 rfl (by decide +kernel) scwords_of (fun vs H Q E h => ?_) (fun _ _ _ _ _ _ us hl => match us, hl with | [_], _ => rfl) (fun cdv A outer s H vs Q E hr h => ?_)
  · obtain ⟨x, rfl, _⟩ := h
    rfl
  · obtain ⟨tp, htp⟩ := pieces_at T
    refine ⟨_, (pss_cons (ps_if (pt_not (pt_val (pe_cal (c_is_text T) hr (pa_cons (pv 0) pa_nil)))) (pss_one (ps_raise rfl (takes_of rfl rfl rfl rfl) (pmk_sup (f_BadText T p) T hr (pa_cons pe_non (pa_cons pe_non (pa_cons pe_non pa_nil)))))) pss_nil)
    (PSs.nox (pss_cons (ps_asg (pe_tup (pa_cons (pe_lst pa_nil) (pa_cons pe_int (pa_cons pe_int (pa_cons pe_bl pa_nil))))) (pg_tup rfl (pgs_cons (pg_name (i := 1) scwords_of.nd rfl (Or.inl rfl)) (pgs_cons (pg_name (i := 2) scwords_of.nd rfl (Or.inl rfl)) (pgs_cons (pg_name (i := 3) scwords_of.nd rfl (Or.inl rfl)) (pgs_cons (pg_name (i := 4) scwords_of.nd rfl (Or.inl rfl)) pgs_nil))))))
    (pss_cons (ps_for PassesOwn.never rfl (pi_str (pv 0)) (pg_name (i := 5) scwords_of.nd rfl (Or.inl rfl)) (pss_cons (ps_set (i := 6) scwords_of.nd rfl (Or.inl rfl) (pe_and (pv 4) (pe_one (pe_cmpR op_in_sign (pv 5) (pe_glob (v := .str piecesS) rfl htp ⟨_, rfl⟩) (by rfl)))))
    (pss_cons (ps_if (pt_val (pv 6)) (pss_cons (ps_asg (pe_bm0 PySem.F.plainAttrs_list PySem.F.slot_list_pop PySem.F.type_list_pop mt_pop (pv 1)) (pg_tup rfl (pgs_cons (pg_name (i := 7) scwords_of.nd rfl (Or.inl rfl)) (pgs_cons (pg_name (i := 8) scwords_of.nd rfl (Or.inl rfl)) (pgs_cons (pg_name (i := 9) scwords_of.nd rfl (Or.inl rfl)) pgs_nil)))))
    (pss_one (ps_expr (pe_bm PySem.F.plainAttrs_list PySem.F.slot_list_append PySem.F.type_list_append mt_append (pv 1) (pa_cons (pe_tup (pa_cons (pe_op op_add_str (pv 7) (pv 5)) (pa_cons (pv 8) (pa_cons (pv 9) pa_nil)))) pa_nil))))) (pss_one (ps_if (PW.pt (pw_and (pt_cmpR op_ne (pv 5) pe_str (nomark _)) (pw_and1 (pt_cmpR op_ne (pv 5) pe_str (nomark _))))) (pss_one (ps_expr (pe_bm PySem.F.plainAttrs_list PySem.F.slot_list_append PySem.F.type_list_append mt_append (pv 1) (pa_cons (pe_tup (pa_cons (pv 5) (pa_cons (pv 2) (pa_cons (pv 3) pa_nil)))) pa_nil)))) pss_nil)))
    (pss_cons (ps_set (i := 4) scwords_of.nd rfl (Or.inl rfl) (pe_cmpR op_in_sign (pv 5) (pe_glob (v := .str piecesS) rfl htp ⟨_, rfl⟩) (by rfl)))
    (pss_one (ps_asg (pe_ifExp (pt_cmpR op_eq (pv 5) pe_str (nomark _)) (pe_tup (pa_cons (pe_op op_add (pv 2) pe_int) (pa_cons pe_int pa_nil))) (pe_tup (pa_cons (pv 2) (pa_cons (pe_op op_add (pv 3) pe_int) pa_nil)))) (pg_tup rfl (pgs_cons (pg_name (i := 2) scwords_of.nd rfl (Or.inl rfl)) (pgs_cons (pg_name (i := 3) scwords_of.nd rfl (Or.inl rfl)) pgs_nil)))))))))
    (pss_one (ps_ret (pv 1))))))), ?_⟩
    obtain ⟨x, rfl, ⟨z, rfl, hz, ht, k⟩ | ⟨bad, k⟩⟩ := h
    · refine ⟨_, rfl, _, rfl, .inl ⟨z, rfl, Nat.le_trans hz (by decide), fun H0 s0 => ?_⟩⟩
      rw [ht]
      refine ⟨_, rfl, ?_⟩
      refine iteF ?_
      refine ⟨Nat.zero_le _, fun p hp => ⟨by show 4 ≤ sizeLine; decide, fun t4 ht4 => ?_⟩⟩
      refine ⟨t4, _, rfl, .inl (.inl upd_same), rfl, _, _, rfl, _, _, rfl, _, _, rfl, _, _, rfl, rfl, ?_⟩
      have np4 : p ≠ t4 := ne_of_none upd_same ht4
      refine ⟨_, rfl, z, rfl, for_it walk_str (fun i σ H' => ∃ (x5 x6 x7 x8 x9 : Option V) (rs : List Addr), σ = [some (.str z), some (.ref p), some (.int (wRun (z.cps.toList.take i)).l), some (.int (wRun (z.cps.toList.take i)).k), some (.bl (wRun (z.cps.toList.take i)).op), x5, x6, x7, x8, x9] ∧
        H' p = some (.lst (rs.map V.ref)) ∧ Al (Tup (del H' p)) rs (wRun (z.cps.toList.take i)).ws ∧ Same H (del H' p)) ?_ (fun _ _ _ _ _ => trivial) ?_ ?_⟩
      · exact ⟨none, none, none, none, none, [], rfl, by rw [upd_ne np4, upd_same]; rfl, .nil, fun b o e => by
          have nb : b ≠ p := ne_of_none (s0 b o e) hp
          have z1 : upd H0 p (.lst []) b = some o := by rw [upd_ne nb]; exact s0 b o e
          rw [del_ne nb, upd_ne (ne_of_none z1 ht4)]
          exact z1⟩
      · rintro i x σ H1 H2 hi ⟨x5, x6, x7, x8, x9, rs, rfl, h1, h2, h3⟩ ⟨rfl, c, hc, rfl⟩
        have hc2 : z.cps.toList[i]? = some c := by rw [Array.getElem?_toList]; exact hc
        have OK := wRun_ok z.cps.toList i (by rw [Array.length_toList]; exact Nat.le_of_lt hi)
        have hi2 : i ≤ 100000 := Nat.le_trans (Nat.le_of_lt hi) hz
        have RUN := wRun_snoc hc2
        generalize wRun (z.cps.toList.take i) = S at *
        generalize wRun (z.cps.toList.take (i + 1)) = S2 at *
        subst RUN
        obtain ⟨ws, l, k_, op⟩ := S
        -- what the turn ends with
        have fin : ∀ (H4 : Hp) (rs' : List Addr), H4 p = some (.lst (rs'.map V.ref)) → Al (Tup (del H4 p)) rs' (wPut ws l k_ op c) → Same H (del H4 p) → ∀ t xs, H4 t = none →
            upd H4 t (.tup xs) p = some (.lst (rs'.map V.ref)) ∧ Al (Tup (del (upd H4 t (.tup xs)) p)) rs' (wPut ws l k_ op c) ∧ Same H (del (upd H4 t (.tup xs)) p) := fun H4 rs' g1 g2 g3 t xs ht => by
          have sm : Same (del H4 p) (del (upd H4 t (.tup xs)) p) := del_mono (Same.new ht)
          exact ⟨Same.new ht _ _ g1, g2.mono fun _ _ r => r.same sm, Same.trans g3 sm⟩
        refine ⟨_, rfl, op, rfl, ite2 (fun a => ?_) (fun a => ?_)⟩
        · refine ⟨_, rfl, c, piecesS, rfl, rfl, ?_⟩
          refine s_body (i := i) (by rw [a]; rfl) OK hi2 h1 h2 h3 fun H4 rs' y7 y8 y9 g1 g2 g3 => s_turn fun t xs ht => ?_
          obtain ⟨f1, f2, f3⟩ := fin H4 rs' g1 g2 g3 t xs ht
          exact ⟨_, _, _, _, _, rs', rfl, f1, f2, f3⟩
        · refine s_body (i := i) (by rw [Bool.eq_false_iff.mpr a]; rfl) OK hi2 h1 h2 h3 fun H4 rs' y7 y8 y9 g1 g2 g3 => s_turn fun t xs ht => ?_
          obtain ⟨f1, f2, f3⟩ := fin H4 rs' g1 g2 g3 t xs ht
          exact ⟨_, _, _, _, _, rs', rfl, f1, f2, f3⟩
      · rintro σ H1 ⟨x5, x6, x7, x8, x9, rs, rfl, h1, h2, h3⟩
        rw [List.take_of_length_le (by simp)] at h2
        exact ⟨_, rfl, k p H1 ⟨Same.free s0 hp, h3, rs, h1, h2⟩⟩
    · have goes : ∀ H0, Same H H0 → tMkO (ga K "BadText") (spFld (ga K "BadText") ["line", "column", "wanted"]) [] (tCons (tC V.non) (tCons (tC V.non) (tCons (tC V.non) tNil))) (start Nwords_of [x]) H0 fun cls d H' => E cls d H' := fun H0 s0 =>
        mk_fld (Q := E) (vs := [.non, .non, .non]) rfl (by show 3 ≤ 1000; decide) fun dx H' n1 s1 e1 => k dx H' (Same.free s0 n1) (Same.trans s0 s1) e1
      refine ⟨_, rfl, x, rfl, ?_⟩
      rcases bad with ⟨z, rfl, hz, ht⟩ | bad
      · refine .inl ⟨z, rfl, Nat.le_trans hz (by decide), fun H0 s0 => ?_⟩
        rw [ht]
        exact ⟨_, rfl, iteT (goes H0 s0)⟩
      · exact .inr ⟨bad, _, rfl, iteT (goes H (Same.refl H))⟩
end
end K00

set_option maxHeartbeats 4000000
namespace K00
open PySem PySem.Spec PyProof.Rows L2 He Sa NdefX
def toldK : Str := "answer ask call clause copy document draw false give house inner law never node outer program state true wait"
theorem told_split : Txt.split toldK " " = keptL := by
  have e := SX.split_S (a := toldK.cps.toList) (b := [32]) (by decide) (by decide)
  have e2 : (TL.spl [32] 0 [] toldK.cps.toList).map SX.S = keptL := by decide +kernel
  rw [e2] at e
  exact e
theorem low_abc (c : Nat) : low c = (decide (97 ≤ c) && decide (c ≤ 122)) := by
  unfold low
  have e : smallS.cps.toList = (List.range 26).map (97 + ·) := by decide +kernel
  rw [e]
  by_cases h : 97 ≤ c ∧ c ≤ 122
  · rw [decide_eq_true h.1, decide_eq_true h.2, decide_eq_true]
    · rfl
    · exact List.mem_map.mpr ⟨c - 97, List.mem_range.mpr (by omega), by omega⟩
  · rw [decide_eq_false]
    · by_cases h1 : 97 ≤ c
      · rw [decide_eq_true h1, decide_eq_false (fun h2 => h ⟨h1, h2⟩)]
        rfl
      · rw [decide_eq_false h1]
        rfl
    · intro m
      obtain ⟨x, hx, rfl⟩ := List.mem_map.mp m
      have := List.mem_range.mp hx
      exact h ⟨by omega, by omega⟩
theorem joinL_nil : ∀ l : List (List Nat), TL.joinL [] l = l.flatten
  | [] => rfl
  | [x] => by simp [TL.joinL]
  | x :: y :: r => by
    show x ++ ([] ++ TL.joinL [] (y :: r)) = _
    rw [joinL_nil (y :: r)]
    rfl
theorem join_flat (ys : List Str) : Txt.join "" ys = ⟨(ys.flatMap fun y => y.cps.toList).toArray⟩ := by
  have e := SX.join_S [] (ys.map fun y => y.cps.toList)
  rw [List.map_map, show (SX.S ∘ fun y : Str => y.cps.toList) = id from funext SX.S_tl, List.map_id, joinL_nil] at e
  exact e
theorem draw_fresh {H : Hp} {d aw ac q : Addr} {n : Int} (D : Draw H d aw ac n) (h : H q = none) : q ≠ d ∧ q ≠ aw := by
  obtain ⟨_, _, _, _, _, g1, g2, _⟩ := D
  exact ⟨(ne_of_none g1 h).symm, (ne_of_none g2 h).symm⟩
theorem draw_fresh_ac {H : Hp} {d aw ac q : Addr} {n : Int} (D : Draw H d aw ac n) (h : H q = none) : q ≠ ac := by
  obtain ⟨_, _, _, _, _, g1, g2, g3, _⟩ := D
  exact (ne_of_none g3 h).symm
theorem draw_upd {H : Hp} {d aw ac q : Addr} {n : Int} {o : HO} (D : Draw H d aw ac n) (h1 : q ≠ d) (h2 : q ≠ aw) (h3 : q ≠ ac) : Draw (upd H q o) d aw ac n := by
  obtain ⟨a, b, c, e, f, g1, g2, g3, g⟩ := D
  exact ⟨a, b, c, e, f, by rw [upd_ne h1.symm]; exact g1, by rw [upd_ne h2.symm]; exact g2, by rw [upd_ne h3.symm]; exact g3, g⟩
theorem keep_free {H H' : Hp} {d aw q : Addr} (k : Keep d aw H H') (h : H' q = none) (h1 : q ≠ d) (h2 : q ≠ aw) : H q = none := by
  cases e : H q with
  | none => rfl
  | some o =>
    rw [k q o e h1 h2] at h
    cases h
theorem keep_upd {H H' : Hp} {d aw q : Addr} {o : HO} (k : Keep d aw H H') (h : H q = none) : Keep d aw H (upd H' q o) := fun b u e h1 h2 => by
  rw [upd_ne (ne_of_none e h)]
  exact k b u e h1 h2
theorem mem_cutS {z : Str} {lo hi : Option Int} {c : Nat} (h : c ∈ (cutS z lo hi).cps.toList) : c ∈ z.cps.toList := by
  have h2 : c ∈ (z.cps.toList.drop (HT.sIx z.length 0 lo)).take (HT.sIx z.length z.length hi - HT.sIx z.length 0 lo) := h
  exact List.mem_of_mem_drop (List.mem_of_mem_take h2)
theorem str_mem {xs : List Str} {i : Nat} {x : V} (h : (xs.map V.str)[i]? = some x) : ∃ z, z ∈ xs ∧ x = .str z := by
  obtain ⟨z, hz, e⟩ := map_get h
  exact ⟨z, List.mem_of_getElem? hz, e.symm⟩
theorem cps_app (a b : Str) : (a ++ b).cps.toList = a.cps.toList ++ b.cps.toList := by
  show (a.cps ++ b.cps).toList = _
  simp
theorem len_app (a b : Str) : (a ++ b).length = a.length + b.length := Str.length_append a b
/-- a text of small letters, at most eight -/
def Nm (z : Str) : Prop := z.length ≤ 8 ∧ ∀ c ∈ z.cps.toList, low c = true
theorem kept_nm : ∀ z ∈ keptL, z.length ≤ 8 ∧ ∀ c ∈ z.cps.toList, low c = true := by
  have e : (keptL.all fun z => decide (z.length ≤ 8) && z.cps.toList.all low) = true := by decide +kernel
  intro z hz
  obtain ⟨a, b⟩ := ba (List.all_eq_true.mp e z hz)
  exact ⟨of_decide_eq_true a, fun c hc => List.all_eq_true.mp b c hc⟩
section
variable {P : Program} {w : World} {K : PySem.W.Frag} {mg : Str → Option Value} {base : Heap}
abbrev Nkept : List Str := ["_law_told"]
theorem sckept : FnScope Nkept [] (defScope skept) := ⟨rfl, rfl, rfl, by decide +kernel, rfl, by decide +kernel, by decide +kernel⟩
def spKept : Sp := fun vs H Q _ => vs = [] ∧ ∀ p, H p = none → Q (.ref p) (upd H p (.lst (keptL.map V.str)))
theorem c_kept (T : Tx sx K mg) : Cal P w K mg base "_law_kept" 1 [] spKept := by
  refine T.cal 7 rfl (by decide +kernel) sckept (fun vs H Q E h => ?_) (fun _ _ _ _ _ _ us hl => match us, hl with | [], _ => rfl) (fun cdv A outer s H vs Q E hr h => ?_)
  · obtain ⟨rfl, _⟩ := h
    rfl
  · obtain ⟨rfl, k⟩ := h
    refine ⟨_, (pss_cons (ps_set (i := 0) sckept.nd rfl (Or.inl rfl) pe_str)
    (pss_one (ps_ret (pe_split (pv 0) pe_str)))), ?_⟩
    refine ⟨_, rfl, ⟨toldK, rfl⟩, toldK, " ", rfl, rfl, rfl, by decide +kernel, fun p hp => ?_⟩
    rw [told_split]
    exact k p hp
abbrev Nany_name : List Str := ["_law_draw", "_law_letters", "_law_way", "_law_word", "_law_k"]
theorem scany_name : FnScope Nany_name ["_law_draw"] (defScope sany_name) := ⟨rfl, rfl, rfl, by decide +kernel, rfl, by decide +kernel, by decide +kernel⟩
def spAny : Sp := fun vs H Q _ => ∃ (d aw ac : Addr) (n : Int), vs = [.ref d] ∧ Draw H d aw ac n ∧ n < 100000000000 ∧ ∀ z H', Nm z → Keep d aw H H' → Draw H' d aw ac (n + 20) → Q (.str z) H'
theorem c_any_name (T : Tx sx K mg) : Cal P w K mg base "_law_any_name" 4 ["_law_draw"] spAny := by
  refine T.cal 8 rfl (by decide +kernel) scany_name (fun vs H Q E h => ?_) (fun _ _ _ _ _ _ us hl => match us, hl with | [_], _ => rfl) (fun cdv A outer s H vs Q E hr h => ?_)
  · obtain ⟨d, aw, ac, n, rfl, _⟩ := h
    rfl
  · obtain ⟨d, aw, ac, n, rfl, D, hn, k⟩ := h
    refine ⟨_, (pss_cons (ps_asg (pe_tup (pa_cons pe_str (pa_cons (pe_cal (c_take T) hr (pa_cons (pv 0) (pa_cons pe_int pa_nil))) pa_nil))) (pg_tup rfl (pgs_cons (pg_name (i := 1) scany_name.nd rfl (Or.inr rfl)) (pgs_cons (pg_name (i := 2) scany_name.nd rfl (Or.inl rfl)) pgs_nil))))
    (pss_cons (ps_if (pt_cmpR op_lt (pv 2) pe_int (nomark _)) (pss_cons (ps_set (i := 3) scany_name.nd rfl (Or.inl rfl) (pe_cal (c_pick T) hr (pa_cons (pv 0) (pa_cons (pe_cal0 (c_kept T) hr) pa_nil))))
    (pss_one (ps_ret (pe_ifExp (PW.pt (pw_or (pt_cmpR op_eq (pv 2) pe_int (nomark _)) (pw_or1 (pt_cmpR op_eq (pe_callB call_len_str (by rfl) (T.free "len") (by decide +kernel) (pa_cons (pv 3) pa_nil)) pe_int (nomark _))))) (pe_slice sl_str (pv 3) po_none (po_some (pe_un un_neg pe_int))) (pe_op op_add_str (pv 3) (pe_ix ix_str (pv 1) (pe_cal (c_take T) hr (pa_cons (pv 0) (pa_cons pe_int pa_nil))) (fun _ _ => rfl))))))) pss_nil)
    (pss_one (ps_ret (pe_join pe_str (pe_lc (own := [("_law_k", 4)]) (g := gName 4) (tt := tYes) rfl scany_name.nd (pi_range1 rfl (T.free "range") (pa_cons (pe_cal (c_pick T) hr (pa_cons (pv 0) (pa_cons (pe_lst (pa_cons pe_int (pa_cons pe_int (pa_cons pe_int (pa_cons pe_int (pa_cons pe_int (pa_cons pe_int (pa_cons pe_int (pa_cons pe_int (pa_cons pe_int (pa_cons pe_int (pa_cons pe_int pa_nil)))))))))))) pa_nil))) pa_nil)) (blkOk_by (N := Nany_name) (sc := defScope sany_name) (by decide +kernel)) (fun _ _ _ _ _ => (pg_name (i := 4) scany_name.nd rfl (Or.inl rfl))) (fun _ _ _ _ _ => pts_nil) (fun _ _ _ _ _ => (pe_ix ix_str (pv 1) (pe_cal (c_take T) hr (pa_cons (pv 0) (pa_cons pe_int pa_nil))) (fun _ _ => rfl))))))))), ?_⟩
    refine ⟨_, rfl, d, aw, ac, n, 12, rfl, D, by omega, ⟨by decide, by decide⟩, fun r H1 r1 r2 K1 D1 => ?_⟩
    refine ⟨by show 2 ≤ sizeLine; decide, fun t0 ht0 => ?_⟩
    refine ⟨t0, _, rfl, .inl (.inl upd_same), rfl, _, _, rfl, _, _, rfl, rfl, ?_⟩
    have D2 := D1.same (Same.new (o := .tup [V.str smallS, .int r]) ht0)
    have K2 := Keep.trans K1 (Same.keep (d := d) (aw := aw) (Same.new (o := .tup [V.str smallS, .int r]) ht0))
    have e0 : (upd H1 t0 (.tup [V.str (Str.ofString "abcdefghijklmnopqrstuvwxyz"), V.int r])) = upd H1 t0 (.tup [V.str smallS, .int r]) := rfl
    rw [e0]
    generalize upd H1 t0 (.tup [V.str smallS, .int r]) = H2 at *
    refine ⟨_, rfl, _, _, rfl, rfl, _, rfl, ?_⟩
    refine ite2 (fun a1 => ?_) (fun a1 => ?_)
    · refine ⟨_, rfl, rfl, fun q hq => ?_⟩
      obtain ⟨q1, q2⟩ := draw_fresh D2 hq
      refine ⟨d, aw, ac, q, n + 1, keptL.map V.str, rfl, D2.same (Same.new hq), by omega, .inl (.inl upd_same), q2, q1, by decide +kernel, by decide +kernel, fun i x H3 hx K3 D3 => ?_⟩
      obtain ⟨z, hz, rfl⟩ := str_mem hx
      obtain ⟨z1, z2⟩ := kept_nm z hz
      have K3' := Keep.trans K2 (Keep.trans (Same.keep (Same.new hq)) K3)
      have cut : Nm (cutS z none (some (-1))) := by
        exact ⟨Nat.le_trans (cutS_length _ _ _) z1, fun c hc => z2 c (mem_cutS hc)⟩
      refine ⟨_, rfl, rfl, _, rfl, ?_⟩
      refine ite2 (fun a2 => ?_) (fun a2 => ?_)
      · refine iteT ?_
        exact ⟨_, rfl, _, rfl, _, rfl, z, rfl, Nat.le_trans z1 (by decide), k _ _ cut K3' (D3.mono (by omega))⟩
      · refine ⟨_, rfl, z, rfl, Nat.le_trans z1 (by decide), rfl, _, rfl, ?_⟩
        refine ite2 (fun a3 => ?_) (fun a3 => ?_)
        · exact ⟨_, rfl, _, rfl, _, rfl, z, rfl, Nat.le_trans z1 (by decide), k _ _ cut K3' (D3.mono (by omega))⟩
        · have z3 : z.length ≠ 8 := fun e => a3 (decide_eq_true (by rw [e]; rfl))
          refine ⟨_, rfl, _, rfl, _, rfl, d, aw, ac, n + 1 + 1, 26, rfl, D3, by omega, ⟨by decide, by decide⟩, fun r2 H4 b1 b2 K4 D4 => ?_⟩
          obtain ⟨c, hc⟩ : ∃ c, smallS.cps.toList[r2.toNat]? = some c := ⟨_, List.getElem?_eq_getElem (show r2.toNat < 26 by omega)⟩
          refine ⟨smallS, r2, c, rfl, rfl, by decide, ?_, z, ⟨#[c]⟩, rfl, rfl, ?_, ?_⟩
          · show (ixN 26 r2).bind _ = _
            unfold ixN
            rw [if_pos b1, if_pos (by show r2 < 26; exact b2)]
            exact hc
          · show z.length + 1 ≤ sizeLine
            exact Nat.le_trans (Nat.succ_le_succ z1) (by decide)
          · refine k _ _ ⟨?_, fun c' hc' => ?_⟩ (Keep.trans K3' K4) (D4.mono (by omega))
            · rw [len_app]
              show z.length + 1 ≤ 8
              omega
            · rw [cps_app] at hc'
              rcases List.mem_append.mp hc' with m | m
              · exact z2 c' m
              · have e : c' = c := by simpa using m
                rw [e]
                exact decide_eq_true (List.mem_of_getElem? hc)
    · refine ⟨⟨"", rfl⟩, ?_⟩
      refine ⟨_, rfl, by show 11 ≤ sizeLine; decide, fun l hl => ?_⟩
      obtain ⟨q1, q2⟩ := draw_fresh D2 hl
      refine ⟨d, aw, ac, l, n + 1, _, rfl, D2.same (Same.new hl), by omega, .inl (.inl upd_same), q2, q1, by decide, by decide, fun i x H3 hx K3 D3 => ?_⟩
      obtain ⟨j, rfl, j1, j2⟩ : ∃ j : Int, x = .int j ∧ 0 ≤ j ∧ j ≤ 8 := by
        have e : ([V.int 1, .int 1, .int 1, .int 2, .int 2, .int 3, .int 4, .int 5, .int 6, .int 7, .int 8].all fun v => match v with
          | .int j => decide (0 ≤ j) && decide (j ≤ 8)
          | _ => false) = true := by decide
        have m := List.all_eq_true.mp e x (List.mem_of_getElem? hx)
        cases x with
        | int j =>
          obtain ⟨a, b⟩ := ba m
          exact ⟨j, rfl, of_decide_eq_true a, of_decide_eq_true b⟩
        | _ => cases m
      have K3' := Keep.trans K2 (Keep.trans (Same.keep (Same.new hl)) K3)
      refine ⟨j, rfl, by omega, by omega, fun Dl nD => lc_it walk_range (fun i H' => ∃ cs : List Nat, cs.length = i ∧ (∀ c ∈ cs, low c = true) ∧ H' Dl = some (.lst ((cs.map fun c => (⟨#[c]⟩ : Str)).map V.str)) ∧ Keep d aw H H' ∧ Draw H' d aw ac (n + 2 + i)) ?_ (fun _ _ _ _ => trivial) ?_ ?_⟩
      · exact ⟨[], rfl, (fun c hc => nomatch hc), upd_same, Keep.trans K3' (Same.keep (Same.new nD)), (D3.same (Same.new nD)).mono (by omega)⟩
      · rintro i x H4 H5 hi ⟨cs, c1, c2, c3, c4, c5⟩ ⟨rfl, rfl⟩
        refine ⟨rfl, ?_⟩
        delta tYes
        refine ifT ?_
        obtain ⟨w1, w2⟩ := draw_fresh D3 nD
        refine ⟨_, rfl, _, rfl, d, aw, ac, n + 2 + i, 26, rfl, c5, by omega, ⟨by decide, by decide⟩, fun r2 H6 b1 b2 K6 D6 => ?_⟩
        obtain ⟨c, hc⟩ : ∃ c, smallS.cps.toList[r2.toNat]? = some c := ⟨_, List.getElem?_eq_getElem (show r2.toNat < 26 by omega)⟩
        have c3' := K6 _ _ c3 w1 w2
        refine ⟨smallS, r2, c, rfl, rfl, by decide, ?_, _, c3', ?_, cs ++ [c], by rw [List.length_append, c1]; rfl, ?_, by rw [upd_same, List.map_append, List.map_append]; rfl, ?_, ?_⟩
        · show (ixN 26 r2).bind _ = _
          unfold ixN
          rw [if_pos b1, if_pos (by show r2 < 26; exact b2)]
          exact hc
        · rw [List.length_map, List.length_map, c1]
          exact small1000 (by omega)
        · intro c' hc'
          rcases List.mem_append.mp hc' with m | m
          · exact c2 c' m
          · rw [List.mem_singleton.mp m]
            exact decide_eq_true (List.mem_of_getElem? hc)
        · exact keep_upd (Keep.trans c4 K6) (keep_free K3' nD w1 w2)
        · refine draw_upd (D6.mono ?_) w1 w2 (draw_fresh_ac D3 nD)
          push_cast
          omega
      · rintro H4 ⟨cs, c1, c2, c3, c4, c5⟩
        refine ⟨"", Dl, cs.map fun c => (⟨#[c]⟩ : Str), rfl, rfl, .inl (.inl (.inl c3)), ?_, ?_⟩
        · rw [List.map_map]
          show (cs.map fun _ => 1).sum + _ * 0 ≤ 16777216
          rw [Nat.mul_zero, Nat.add_zero]
          have e : (cs.map fun _ => 1).sum = cs.length := by
            clear c1 c2 c3
            induction cs with
            | nil => rfl
            | cons a l ih =>
              rw [List.map_cons, List.sum_cons, ih, List.length_cons]
              omega
          rw [e, c1]
          omega
        · rw [join_flat]
          have e : ((cs.map fun c => (⟨#[c]⟩ : Str)).flatMap fun y => y.cps.toList) = cs := by
            clear c1 c2 c3
            induction cs with
            | nil => rfl
            | cons a l ih =>
              rw [List.map_cons, List.flatMap_cons, ih]
              rfl
          rw [e]
          refine k _ _ ⟨?_, fun c hc => c2 c (by simpa using hc)⟩ c4 (c5.mono (by omega))
          show cs.toArray.size ≤ 8
          rw [List.size_toArray, c1]
          omega
end
end K00

set_option maxHeartbeats 4000000
namespace K00
open PySem PySem.Spec PyProof.Rows L2 He Sa NdefX
def btw (a b c : Nat) : Bool := !decide ([c] < [a]) && !decide ([b] < [c])
theorem btw_eq (a b c : Nat) : btw a b c = (decide (a ≤ c) && decide (c ≤ b)) := by
  have e : ∀ x y : Nat, decide ([x] < [y]) = decide (x < y) := fun x y => by
    by_cases h : x < y
    · rw [decide_eq_true h, decide_eq_true (List.cons_lt_cons_iff.mpr (Or.inl h))]
    · rw [decide_eq_false h, decide_eq_false]
      intro z
      rcases List.cons_lt_cons_iff.mp z with z | ⟨_, z⟩
      · exact h z
      · exact absurd z (by simp)
  unfold btw
  rw [e, e]
  by_cases h1 : a ≤ c <;> by_cases h2 : c ≤ b
  · rw [decide_eq_true h1, decide_eq_true h2, decide_eq_false (by omega), decide_eq_false (by omega)]
    rfl
  · rw [decide_eq_true h1, decide_eq_false h2, decide_eq_false (show ¬ c < a by omega), decide_eq_true (by omega)]
    rfl
  · rw [decide_eq_false h1, decide_eq_true (show c < a by omega)]
    rfl
  · rw [decide_eq_false h1, decide_eq_true (show c < a by omega)]
    rfl
def inI (c : Nat) : Bool := btw 97 122 c || (btw 65 90 c || (btw 48 57 c || decide (c = 95)))
theorem inI_eq (c : Nat) : inI c = inP c := by
  by_cases h : c < 128
  · have e : (List.range 128).all (fun c => inI c == inP c) = true := by decide +kernel
    exact eq_of_beq (List.all_eq_true.mp e c (List.mem_range.mpr h))
  · have e1 : inP c = false := by
      unfold inP
      refine decide_eq_false (fun m => h ?_)
      have e : piecesS.cps.toList.all (fun c => decide (c < 128)) = true := by decide +kernel
      exact of_decide_eq_true (List.all_eq_true.mp e c m)
    rw [e1]
    unfold inI
    rw [btw_eq, btw_eq, btw_eq, decide_eq_false (show ¬ c ≤ 122 by omega), decide_eq_false (show ¬ c ≤ 90 by omega), decide_eq_false (show ¬ c ≤ 57 by omega), decide_eq_false (show ¬ c = 95 by omega), Bool.and_false, Bool.and_false, Bool.and_false]
    rfl
section
variable {P : Program} {w : World} {K : PySem.W.Frag} {mg : Str → Option Value} {base : Heap}
abbrev Ninner : List Str := ["_law_sign"]
theorem scinner : FnScope Ninner ["_law_sign"] (defScope sinner) := ⟨rfl, rfl, rfl, by decide +kernel, rfl, by decide +kernel, by decide +kernel⟩
def spInner : Sp := fun vs H Q _ => ∃ c : Nat, vs = [.str ⟨#[c]⟩] ∧ Q (.bl (inP c)) H
theorem t_btw {a b c : Nat} {σ : L2.St} {H : Hp} {Q : VK} {x y : Str} (ea : x.cps.toList = [a]) (eb : y.cps.toList = [b]) (h0 : σ[0]? = some (some (.str ⟨#[c]⟩))) (q : Q (.bl (btw a b c)) H) :
    tChain (fun x y H Q => ∃ i j, x = V.str i ∧ y = V.str j ∧ Q (V.bl (!decide (j.cps.toList < i.cps.toList))) H) (fun x y H Q => ∃ i j, x = V.str i ∧ y = V.str j ∧ Q (V.bl (!decide (j.cps.toList < i.cps.toList))) H) (tC (V.str x)) (tVar 0) (tC (V.str y)) σ H Q := by
  refine ⟨_, h0, _, _, rfl, rfl, _, rfl, ?_⟩
  rw [ea]
  have e : (⟨#[c]⟩ : Str).cps.toList = [c] := rfl
  rw [e]
  unfold btw at q
  refine ite2 (fun a2 => ?_) (fun a2 => ?_)
  · refine ⟨_, _, rfl, rfl, ?_⟩
    rw [eb, e]
    rw [a2, Bool.true_and] at q
    exact q
  · rw [Bool.eq_false_iff.mpr a2, Bool.false_and] at q
    exact q
theorem c_inner (T : Tx sx K mg) : Cal P w K mg base "_law_inner" 1 ["_law_sign"] spInner := by
  refine T.cal 9 rfl (by decide +kernel) scinner (fun vs H Q E h => ?_) (fun _ _ _ _ _ _ us hl => match us, hl with | [_], _ => rfl) (fun cdv A outer s H vs Q E hr h => ?_)
  · obtain ⟨c, rfl, _⟩ := h
    rfl
  · obtain ⟨c, rfl, k⟩ := h
    refine ⟨_, (pss_one (ps_ret (pe_or (pe_chain op_le_str op_le_str pe_str (pv 0) pe_str) (pe_or (pe_chain op_le_str op_le_str pe_str (pv 0) pe_str) (pe_or (pe_chain op_le_str op_le_str pe_str (pv 0) pe_str) (pe_one (pe_cmpR op_eq (pv 0) pe_str (nomark _)))))))), ?_⟩
    rw [← inI_eq] at k
    unfold inI at k
    delta tRet tOrV
    refine @t_btw 97 122 c (L2.start Ninner [.str ⟨#[c]⟩]) H _ "a" "z" rfl rfl rfl ?_
    refine ⟨_, rfl, ite2 (fun a => ?_) (fun a => ?_)⟩
    · rw [a] at k
      exact k
    rw [Bool.eq_false_iff.mpr a, Bool.false_or] at k
    refine @t_btw 65 90 c (L2.start Ninner [.str ⟨#[c]⟩]) H _ "A" "Z" rfl rfl rfl ?_
    refine ⟨_, rfl, ite2 (fun a => ?_) (fun a => ?_)⟩
    · rw [a] at k
      exact k
    rw [Bool.eq_false_iff.mpr a, Bool.false_or] at k
    refine @t_btw 48 57 c (L2.start Ninner [.str ⟨#[c]⟩]) H _ "0" "9" rfl rfl rfl ?_
    refine ⟨_, rfl, ite2 (fun a => ?_) (fun a => ?_)⟩
    · rw [a] at k
      exact k
    rw [Bool.eq_false_iff.mpr a, Bool.false_or] at k
    refine ⟨_, rfl, rfl, ?_⟩
    rw [show decide (V.str ⟨#[c]⟩ = V.str (Str.ofString "_")) = decide (c = 95) from sign_eq c 95]
    exact k
end
end K00

set_option maxHeartbeats 4000000
namespace K00
open PySem PySem.Spec PyProof.Rows L2 He Sa NdefX
/-- one line's words behind ws -/
def lRun (ws : List Wd) (row : Int) (line : List Nat) : WS := line.foldl wStep ⟨ws, row + 1, 1, false⟩
def cutL : Int → List (List Nat) → List Wd → List Wd
  | _, [], ws => ws
  | row, l :: r, ws => cutL (row + 1) r (lRun ws row l).ws
theorem lRun_snoc {ws : List Wd} {row : Int} {line : List Nat} {c : Nat} : lRun ws row (line ++ [c]) = wStep (lRun ws row line) c := by
  unfold lRun
  rw [List.foldl_append]
  rfl
theorem run_lk : ∀ (line : List Nat) (S : WS), 10 ∉ line → (line.foldl wStep S).l = S.l ∧ (line.foldl wStep S).k = S.k + line.length
  | [], S, _ => ⟨rfl, by show S.k = S.k + ((0 : Nat) : Int); omega⟩
  | c :: r, S, h => by
    have hc : c ≠ 10 := fun e => h (by rw [e]; exact List.mem_cons_self)
    obtain ⟨a, b⟩ := run_lk r (wStep S c) (fun m => h (List.mem_cons_of_mem _ m))
    have e1 : (wStep S c).l = S.l := if_neg hc
    have e2 : (wStep S c).k = S.k + 1 := if_neg hc
    rw [e1] at a
    rw [e2] at b
    refine ⟨a, b.trans ?_⟩
    rw [List.length_cons]
    show S.k + 1 + (r.length : Int) = S.k + ((r.length + 1 : Nat) : Int)
    omega
theorem lRun_lk {ws : List Wd} {row : Int} (line : List Nat) (h : 10 ∉ line) : (lRun ws row line).l = row + 1 ∧ (lRun ws row line).k = 1 + line.length := run_lk line ⟨ws, row + 1, 1, false⟩ h
theorem pre_ten (c : Nat) (r : List Nat) : TL.pre [10] (c :: r) = decide (c = 10) := by
  unfold TL.pre
  show ((c :: r).take 1 == [10]) = _
  by_cases h : c = 10
  · subst h
    rw [decide_eq_true rfl]
    simp
  · rw [decide_eq_false h]
    simp [h]
/-- the same words -/
theorem cut_run : ∀ (cs acc : List Nat) (ws : List Wd) (row : Int), 10 ∉ acc → (cs.foldl wStep (lRun ws row acc)).ws = cutL row (TL.spl [10] 0 acc cs) ws
  | [], acc, ws, row, _ => rfl
  | c :: r, acc, ws, row, h => by
    by_cases hc : c = 10
    · rw [TL.spl_hit (by rw [pre_ten]; exact decide_eq_true hc)]
      show ((r.foldl wStep (wStep (lRun ws row acc) c))).ws = cutL (row + 1) (TL.spl [10] 0 [] r) (lRun ws row acc).ws
      rw [← cut_run r [] _ (row + 1) (fun m => nomatch m)]
      have e : wStep (lRun ws row acc) c = lRun (lRun ws row acc).ws (row + 1) [] := by
        obtain ⟨a, b⟩ := lRun_lk (ws := ws) (row := row) acc h
        subst hc
        show WS.mk _ _ _ _ = WS.mk _ _ _ _
        have e1 : inP 10 = false := by decide +kernel
        have e2 : wPut (lRun ws row acc).ws (lRun ws row acc).l (lRun ws row acc).k (lRun ws row acc).op 10 = (lRun ws row acc).ws := by
          unfold wPut
          rw [e1, Bool.and_false, if_neg (by decide), if_neg (by decide)]
        rw [e2, e1, if_pos rfl, if_pos rfl, a]
      rw [e]
    · have e : TL.spl [10] 0 acc (c :: r) = TL.spl [10] 0 (acc ++ [c]) r := by
        show (if TL.pre [10] (c :: r) = true then _ else _) = _
        rw [pre_ten, if_neg (by rw [decide_eq_false hc]; decide)]
      rw [e, ← cut_run r (acc ++ [c]) ws row (fun m => (List.mem_append.mp m).elim h fun m => hc (List.mem_singleton.mp m).symm), lRun_snoc]
      rfl
def linesF (z : Str) : List (List Nat) := TL.spl [10] 0 [] z.cps.toList
theorem cut_words (z : Str) : cutL 0 (linesF z) [] = wordsF z := (cut_run z.cps.toList [] [] 0 (fun m => nomatch m)).symm
theorem spl_no : ∀ (cs acc : List Nat), 10 ∉ acc → ∀ l ∈ TL.spl [10] 0 acc cs, 10 ∉ l
  | [], acc, h, l, m => by
    have m : l ∈ [acc] := m
    rw [List.mem_singleton.mp m]
    exact h
  | c :: r, acc, h, l, m => by
    by_cases hc : c = 10
    · rw [TL.spl_hit (by rw [pre_ten]; exact decide_eq_true hc)] at m
      rcases List.mem_cons.mp m with e | m
      · rw [e]
        exact h
      · exact spl_no r [] (fun m => nomatch m) l m
    · have e : TL.spl [10] 0 acc (c :: r) = TL.spl [10] 0 (acc ++ [c]) r := by
        show (if TL.pre [10] (c :: r) = true then _ else _) = _
        rw [pre_ten, if_neg (by rw [decide_eq_false hc]; decide)]
      rw [e] at m
      exact spl_no r (acc ++ [c]) (fun m => (List.mem_append.mp m).elim h fun m => hc (List.mem_singleton.mp m).symm) l m
theorem spl_sum : ∀ (cs acc : List Nat), ((TL.spl [10] 0 acc cs).map List.length).sum ≤ acc.length + cs.length
  | [], acc => by
    show (acc.length + 0) ≤ _
    omega
  | c :: r, acc => by
    by_cases hc : c = 10
    · rw [TL.spl_hit (by rw [pre_ten]; exact decide_eq_true hc)]
      have := spl_sum r []
      show acc.length + ((TL.spl [10] 0 [] r).map List.length).sum ≤ acc.length + (r.length + 1)
      have h0 : ([] : List Nat).length = 0 := rfl
      omega
    · have e : TL.spl [10] 0 acc (c :: r) = TL.spl [10] 0 (acc ++ [c]) r := by
        show (if TL.pre [10] (c :: r) = true then _ else _) = _
        rw [pre_ten, if_neg (by rw [decide_eq_false hc]; decide)]
      rw [e]
      have := spl_sum r (acc ++ [c])
      rw [List.length_append] at this
      show _ ≤ acc.length + (r.length + 1)
      have h1 : [c].length = 1 := rfl
      omega
theorem spl_len : ∀ (cs acc : List Nat), (TL.spl [10] 0 acc cs).length ≤ cs.length + 1
  | [], acc => by
    show 1 ≤ _
    omega
  | c :: r, acc => by
    by_cases hc : c = 10
    · rw [TL.spl_hit (by rw [pre_ten]; exact decide_eq_true hc)]
      have := spl_len r []
      show (TL.spl [10] 0 [] r).length + 1 ≤ r.length + 1 + 1
      omega
    · have e : TL.spl [10] 0 acc (c :: r) = TL.spl [10] 0 (acc ++ [c]) r := by
        show (if TL.pre [10] (c :: r) = true then _ else _) = _
        rw [pre_ten, if_neg (by rw [decide_eq_false hc]; decide)]
      rw [e]
      have := spl_len r (acc ++ [c])
      show _ ≤ r.length + 1 + 1
      omega
end K00

set_option maxHeartbeats 4000000
namespace K00
open PySem PySem.Spec PyProof.Rows L2 He Sa NdefX
theorem c_grow {K : PySem.W.Frag} {D : Ends} {H H2 : Hp} {p : Addr} {rs : List Addr} {ws : List Wd} {row j : Int} {op : Bool} {c i : Nat} {x0 x3 x4 x7 x8 x9 : Option V} (OK : WOk ⟨ws, row + 1, j + 1, op⟩ i) (hi : i ≤ 100000)
    (h1 : H2 p = some (.lst (rs.map V.ref))) (h2 : Al (Tup (del H2 p)) rs ws) (h3 : Same H (del H2 p)) (eo : op = true) (ep : inP c = true)
    (kk : ∀ H4 rs' x7 x8 x9, H4 p = some (.lst (rs'.map V.ref)) → Al (Tup (del H4 p)) rs' (wPut ws (row + 1) (j + 1) op c) → Same H (del H4 p) → D.nx [x0, some (.ref p), some (.int row), x3, x4, some (.int j), some (.str ⟨#[c]⟩), x7, x8, x9] H4) :
    tSeq (tAsg (tBM0 K "list" rPop (tVar 1)) (gTup K 3 (gCons (gName 7) (gCons (gName 8) (gCons (gName 9) gNil)))))
        (tDrop (tBM K "list" rAppend (tVar 1) (tCons (tTup (tCons (tOp (fun x y H Q => ∃ i j, x = V.str i ∧ y = V.str j ∧ i.length + j.length ≤ sizeLine ∧ Q (V.str (i ++ j)) H) (tVar 7) (tVar 6)) (tCons (tVar 8) (tCons (tVar 9) tNil)))) tNil))) D
      [x0, some (.ref p), some (.int row), x3, x4, some (.int j), some (.str ⟨#[c]⟩), x7, x8, x9] H2 := by
  obtain ⟨d, ed⟩ : ∃ d, ws.getLast? = some d := by
    cases q : ws.getLast? with
    | none => exact absurd (List.getLast?_eq_none_iff.mp q) (OK.op eo)
    | some d => exact ⟨d, rfl⟩
  have ew : ws = ws.dropLast ++ [d] := by
    have ne := OK.op eo
    have q := List.dropLast_concat_getLast ne
    rw [List.getLast?_eq_some_getLast ne] at ed
    rw [← Option.some.inj ed]
    exact q.symm
  rw [ew] at h2
  obtain ⟨rs', r, rfl, g1, g2⟩ := h2.last
  have hr : H2 r = some (.tup [.str ⟨d.1.toArray⟩, .int d.2.1, .int d.2.2]) := del_sub _ _ g2
  have nrp : r ≠ p := ne_of hr h1 (fun e => by cases e)
  refine ⟨_, rfl, .inl ⟨rfl, _, .inl (.inl h1)⟩, p, _, .ref r, rfl, rfl, h1, ?_, ?_⟩
  · rw [List.map_append]
    simp
  refine ⟨r, _, rfl, .inl (.inl (by rw [upd_ne nrp]; exact hr)), rfl, _, _, rfl, _, _, rfl, _, _, rfl, rfl, ?_⟩
  have hdl : d.1.length ≤ i := OK.wl d (by rw [ew]; exact List.mem_append_right _ List.mem_cons_self)
  refine ⟨_, rfl, .inl ⟨rfl, _, .inl (.inl upd_same)⟩, _, rfl, _, rfl, _, _, rfl, rfl, ?_, _, rfl, _, rfl, by show 3 ≤ sizeLine; decide, fun t ht => ?_⟩
  · show d.1.toArray.size + 1 ≤ sizeLine
    rw [List.size_toArray]
    exact Nat.le_trans (Nat.succ_le_succ (Nat.le_trans hdl hi)) (by decide)
  have npt : p ≠ t := ne_of_none upd_same ht
  refine ⟨p, _, .ref t, rfl, rfl, by rw [upd_ne npt]; exact upd_same, ?_, ?_⟩
  · rw [List.map_append]
    simp only [List.map_cons, List.map_nil, List.dropLast_concat, List.length_map]
    have q := g1.length
    have q2 := OK.len
    have q3 : ws.length = ws.dropLast.length + 1 := by
      have z := congrArg List.length ew
      rw [List.length_append] at z
      exact z
    have q4 : ws.length ≤ i := q2
    exact Nat.lt_of_le_of_lt (show rs'.length ≤ 100000 by omega) (by decide)
  have ht0 : H2 t = none := by
    rw [upd_ne npt.symm] at ht
    exact ht
  have e5 : ∀ o, del (upd (upd (upd H2 p (.lst ((rs' ++ [r]).map V.ref).dropLast)) t o) p (.lst (((rs' ++ [r]).map V.ref).dropLast ++ [V.ref t]))) p = upd (del H2 p) t o := fun o => by
    rw [del_upd]
    funext b
    by_cases q : b = p
    · rw [q, del_same, upd_ne npt, del_same]
    · rw [del_ne q]
      by_cases q2 : b = t
      · rw [q2, upd_same, upd_same]
      · rw [upd_ne q2, upd_ne q, upd_ne q2, del_ne q]
  have hd0 : del H2 p t = none := by rw [del_ne npt.symm]; exact ht0
  refine kk _ (rs' ++ [t]) _ _ _ (by rw [upd_same, List.map_append]; simp) ?_ ?_
  · rw [e5]
    have e6 : wPut ws (row + 1) (j + 1) op c = ws.dropLast ++ [(d.1 ++ [c], d.2)] := by
      unfold wPut wGrow
      rw [eo, if_pos (by rw [ep]; rfl), ed]
    rw [e6]
    refine Al.snoc (g1.mono fun _ _ q => q.same (Same.new hd0)) ?_
    show upd _ t _ t = _
    rw [upd_same]
    show some (HO.tup [V.str (⟨d.1.toArray⟩ ++ ⟨#[c]⟩), _, _]) = some (HO.tup [V.str ⟨(d.1 ++ [c]).toArray⟩, _, _])
    have e7 : ((⟨d.1.toArray⟩ : Str) ++ ⟨#[c]⟩) = ⟨(d.1 ++ [c]).toArray⟩ := by
      show (⟨d.1.toArray ++ #[c]⟩ : Str) = _
      simp
    rw [e7]
  · rw [e5]
    exact Same.trans h3 (Same.new hd0)
theorem c_put {K : PySem.W.Frag} {D : Ends} {H H2 : Hp} {p : Addr} {rs : List Addr} {ws : List Wd} {row j : Int} {op : Bool} {c i : Nat} {x0 x3 x4 x7 x8 x9 : Option V} (OK : WOk ⟨ws, row + 1, j + 1, op⟩ i) (hi : i ≤ 100000)
    (h1 : H2 p = some (.lst (rs.map V.ref))) (h2 : Al (Tup (del H2 p)) rs ws) (h3 : Same H (del H2 p)) (e6 : wPut ws (row + 1) (j + 1) op c = ws ++ [([c], row + 1, j + 1)])
    (kk : ∀ H4 rs' x7 x8 x9, H4 p = some (.lst (rs'.map V.ref)) → Al (Tup (del H4 p)) rs' (wPut ws (row + 1) (j + 1) op c) → Same H (del H4 p) → D.nx [x0, some (.ref p), some (.int row), x3, x4, some (.int j), some (.str ⟨#[c]⟩), x7, x8, x9] H4) :
    tDrop (tBM K "list" rAppend (tVar 1) (tCons (tTup (tCons (tVar 6) (tCons (tOp (rI0 fun i j => V.int (i + j)) (tVar 2) (tC (V.int 1))) (tCons (tOp (rI0 fun i j => V.int (i + j)) (tVar 5) (tC (V.int 1))) tNil)))) tNil)) D
      [x0, some (.ref p), some (.int row), x3, x4, some (.int j), some (.str ⟨#[c]⟩), x7, x8, x9] H2 := by
  refine ⟨_, rfl, .inl ⟨rfl, _, .inl (.inl h1)⟩, _, rfl, _, rfl, _, _, rfl, rfl, _, rfl, _, _, rfl, rfl, by show 3 ≤ sizeLine; decide, fun t ht => ?_⟩
  have npt : p ≠ t := ne_of_none h1 ht
  have s4 := Same.new (o := .tup [.str ⟨#[c]⟩, .int (row + 1), .int (j + 1)]) ht
  refine ⟨p, _, .ref t, rfl, rfl, s4 _ _ h1, ?_, ?_⟩
  · rw [List.length_map, h2.length]
    exact Nat.lt_of_le_of_lt (Nat.le_trans OK.len hi) (by decide)
  refine kk _ (rs ++ [t]) _ _ _ (by rw [upd_same, List.map_append]; rfl) ?_ ?_
  · rw [del_upd, e6]
    refine Al.snoc (h2.mono fun _ _ q => q.same (del_mono s4)) ?_
    show del _ p t = _
    rw [del_ne npt.symm, upd_same]
  · rw [del_upd]
    exact Same.trans h3 (del_mono s4)
end K00

set_option maxHeartbeats 4000000
namespace K00
open PySem PySem.Spec PyProof.Rows L2 He Sa NdefX
theorem cutL_snoc : ∀ (l : List (List Nat)) (row : Int) (ws : List Wd) (x : List Nat), cutL row (l ++ [x]) ws = (lRun (cutL row l ws) (row + l.length) x).ws
  | [], row, ws, x => by
    show (lRun ws row x).ws = (lRun ws (row + ((0 : Nat) : Int)) x).ws
    rw [show row + ((0 : Nat) : Int) = row by omega]
  | y :: l, row, ws, x => by
    show cutL (row + 1) (l ++ [x]) (lRun ws row y).ws = _
    rw [cutL_snoc l (row + 1) _ x]
    show _ = (lRun (cutL (row + 1) l (lRun ws row y).ws) (row + ((l.length + 1 : Nat) : Int)) x).ws
    rw [show row + 1 + (l.length : Int) = row + ((l.length + 1 : Nat) : Int) by omega]
theorem run_okS : ∀ (line : List Nat) (S : WS) (n : Nat), WOk S n → WOk (line.foldl wStep S) (n + line.length)
  | [], S, n, h => h
  | c :: r, S, n, h => by
    have q := run_okS r (wStep S c) (n + 1) (wOk_step h)
    rw [show n + (c :: r).length = n + 1 + r.length by rw [List.length_cons]; omega]
    exact q
theorem lRun_op {ws : List Wd} {row : Int} {line : List Nat} {j c : Nat} (h : line[j]? = some c) : (lRun ws row (line.take (j + 1))).op = inP c := by
  rw [take_snoc h, lRun_snoc]
  rfl
section
variable {P : Program} {w : World} {K : PySem.W.Frag} {mg : Str → Option Value} {base : Heap}
abbrev Ncut : List Str := ["_law_text", "_law_found", "_law_row", "_law_line", "_law_former", "_law_column", "_law_sign", "_law_word", "_law_at", "_law_place"]
theorem sccut : FnScope Ncut ["_law_text"] (defScope scut) := ⟨rfl, rfl, rfl, by decide +kernel, rfl, by decide +kernel, by decide +kernel⟩
def spCut : Sp := fun vs H Q _ => ∃ z, vs = [.str z] ∧ z.length ≤ 40000 ∧ ∀ p H', WordsAt H p (wordsF z) H' → Q (.ref p) H'
theorem c_cut (T : Tx sx K mg) : Cal P w K mg base "_law_cut" 2 ["_law_text"] spCut := by
  refine T.cal 10 rfl (by decide +kernel) sccut (fun vs H Q E h => ?_) (fun _ _ _ _ _ _ us hl => match us, hl with | [_], _ => rfl) (fun cdv A outer s H vs Q E hr h => ?_)
  · obtain ⟨z, rfl, _⟩ := h
    rfl
  · obtain ⟨z, rfl, hz, k⟩ := h
    refine ⟨_, (pss_cons (ps_set (i := 1) sccut.nd rfl (Or.inl rfl) (pe_lst pa_nil))
    (pss_cons (ps_for PassesOwn.never rfl (pi_enum (by rfl) (T.free "enumerate") (pa_cons (pe_split (pv 0) pe_str) pa_nil)) (pg_tup rfl (pgs_cons (pg_name (i := 2) sccut.nd rfl (Or.inl rfl)) (pgs_cons (pg_name (i := 3) sccut.nd rfl (Or.inl rfl)) pgs_nil))) (pss_cons (ps_set (i := 4) sccut.nd rfl (Or.inl rfl) pe_str)
    (pss_one (ps_for PassesOwn.never rfl (pi_enumS (by rfl) (T.free "enumerate") (pa_cons (pv 3) pa_nil)) (pg_tup rfl (pgs_cons (pg_name (i := 5) sccut.nd rfl (Or.inl rfl)) (pgs_cons (pg_name (i := 6) sccut.nd rfl (Or.inl rfl)) pgs_nil))) (pss_cons (ps_if (PW.pt (pw_and (pt_cmpR op_ne (pv 6) pe_str (nomark _)) (pw_and (pt_val (pe_cal (c_inner T) hr (pa_cons (pv 6) pa_nil))) (pw_and1 (pt_val (pe_cal (c_inner T) hr (pa_cons (pv 4) pa_nil))))))) (pss_cons (ps_asg (pe_bm0 PySem.F.plainAttrs_list PySem.F.slot_list_pop PySem.F.type_list_pop mt_pop (pv 1)) (pg_tup rfl (pgs_cons (pg_name (i := 7) sccut.nd rfl (Or.inl rfl)) (pgs_cons (pg_name (i := 8) sccut.nd rfl (Or.inl rfl)) (pgs_cons (pg_name (i := 9) sccut.nd rfl (Or.inl rfl)) pgs_nil)))))
    (pss_one (ps_expr (pe_bm PySem.F.plainAttrs_list PySem.F.slot_list_append PySem.F.type_list_append mt_append (pv 1) (pa_cons (pe_tup (pa_cons (pe_op op_add_str (pv 7) (pv 6)) (pa_cons (pv 8) (pa_cons (pv 9) pa_nil)))) pa_nil))))) (pss_one (ps_if (pt_cmpR op_ne (pv 6) pe_str (nomark _)) (pss_one (ps_expr (pe_bm PySem.F.plainAttrs_list PySem.F.slot_list_append PySem.F.type_list_append mt_append (pv 1) (pa_cons (pe_tup (pa_cons (pv 6) (pa_cons (pe_op op_add (pv 2) pe_int) (pa_cons (pe_op op_add (pv 5) pe_int) pa_nil)))) pa_nil)))) pss_nil)))
    (pss_one (ps_set (i := 4) sccut.nd rfl (Or.inl rfl) (pv 6))))))))
    (pss_one (ps_ret (pv 1))))), ?_⟩
    refine ⟨Nat.zero_le _, fun p hp => ?_⟩
    refine ⟨_, rfl, ⟨z, rfl⟩, z, "\n", rfl, rfl, rfl, Nat.le_trans (Nat.add_le_add_right hz 2) (by decide), fun ls hls => ?_⟩
    have npl : p ≠ ls := ne_of_none upd_same hls
    have esp : Txt.split z "\n" = (linesF z).map SX.S := by
      have e := SX.split_S (a := z.cps.toList) (b := [10]) (by decide) (by decide)
      rw [SX.S_tl] at e
      exact e
    rw [esp]
    have hp1 : upd (upd H p (.lst [])) ls (.lst (((linesF z).map SX.S).map V.str)) p = some (.lst []) := by rw [upd_ne npl, upd_same]
    have hl1 : upd (upd H p (.lst [])) ls (.lst (((linesF z).map SX.S).map V.str)) ls = some (.lst (((linesF z).map SX.S).map V.str)) := upd_same
    have s1 : Same H (del (upd (upd H p (.lst [])) ls (.lst (((linesF z).map SX.S).map V.str))) p) := Same.trans (same_del hp) (del_mono (Same.new hls))
    generalize upd (upd H p (.lst [])) ls (.lst (((linesF z).map SX.S).map V.str)) = H1 at *
    obtain ⟨Hb, eHb⟩ : ∃ Hb, Hb = del H1 p := ⟨_, rfl⟩
    have hlb : Hb ls = some (.lst (((linesF z).map SX.S).map V.str)) := by rw [eHb, del_ne npl.symm]; exact hl1
    have sHb : Same H Hb := by rw [eHb]; exact s1
    have sum_le : ∀ i, (((linesF z).take i).map List.length).sum ≤ z.length := fun i => by
      have q := spl_sum z.cps.toList []
      have q2 : (((linesF z).take i).map List.length).sum ≤ ((linesF z).map List.length).sum := by
        have e := congrArg (fun l => (l.map List.length).sum) (List.take_append_drop i (linesF z))
        have e : (((linesF z).take i ++ (linesF z).drop i).map List.length).sum = ((linesF z).map List.length).sum := e
        rw [List.map_append, List.sum_append] at e
        omega
      have q3 : ((linesF z).map List.length).sum ≤ 0 + z.cps.toList.length := q
      rw [Array.length_toList] at q3
      exact Nat.le_trans q2 (by rw [Nat.zero_add] at q3; exact q3)
    refine ⟨ls, _, rfl, .inl (.inl hl1), for_it (walk_enum (xs := ((linesF z).map SX.S).map V.str)) (fun i σ H' => ∃ (x2 x3 x4 x5 x6 x7 x8 x9 : Option V) (rs : List Addr), σ = [some (.str z), some (.ref p), x2, x3, x4, x5, x6, x7, x8, x9] ∧
      H' p = some (.lst (rs.map V.ref)) ∧ Al (Tup (del H' p)) rs (cutL 0 ((linesF z).take i) []) ∧ Same Hb (del H' p) ∧ WOk ⟨cutL 0 ((linesF z).take i) [], 0, 0, false⟩ (((linesF z).take i).map List.length).sum) ?_ (fun i σ H' _ z => ?_) ?_ ?_⟩
    · exact ⟨none, none, none, none, none, none, none, none, [], rfl, hp1, .nil, by rw [eHb]; exact Same.refl _, (fun h => by cases h), Nat.le_refl _, fun d h => by cases h⟩
    · obtain ⟨_, _, _, _, _, _, _, _, rs, _, _, _, q, _⟩ := z
      exact .inl (.inl (del_sub _ _ (q _ _ hlb)))
    · rintro i x σ H2 H3 hi ⟨x2, x3, x4, x5, x6, x7, x8, x9, rs, rfl, h1, h2, h3, h5⟩ ⟨t, u, v, rfl, ht, rfl, hu, hv⟩
      obtain rfl := Option.some.inj hu
      obtain ⟨y, hy, rfl⟩ := map_get (show (((linesF z).map SX.S).map V.str)[i]? = some v from hv)
      obtain ⟨line, hline, rfl⟩ := map_get hy
      have no10 : 10 ∉ line := spl_no z.cps.toList [] (fun m => nomatch m) line (List.mem_of_getElem? hline)
      have hsum : (((linesF z).take (i + 1)).map List.length).sum = (((linesF z).take i).map List.length).sum + line.length := by
        rw [take_snoc hline, List.map_append, List.sum_append]
        simp
      have hcut : cutL 0 ((linesF z).take (i + 1)) [] = (lRun (cutL 0 ((linesF z).take i) []) (i : Int) line).ws := by
        rw [take_snoc hline, cutL_snoc, List.length_take, Nat.min_eq_left (by
          have := (List.getElem?_eq_some_iff.mp hline).1
          omega)]
        simp
      have n0 := sum_le (i + 1)
      rw [hsum] at n0
      generalize cutL 0 ((linesF z).take i) [] = ws0 at *
      generalize (((linesF z).take i).map List.length).sum = n at *
      have ntp : t ≠ p := (ne_of_none h1 ht).symm
      have g1 := Same.new (o := .tup [.int (i : Nat), .str (SX.S line)]) ht _ _ h1
      have g2 : Al (Tup (del (upd H2 t (.tup [.int (i : Nat), .str (SX.S line)])) p)) rs ws0 := h2.mono fun _ _ q => q.same (del_mono (Same.new ht))
      have g3 : Same Hb (del (upd H2 t (.tup [.int (i : Nat), .str (SX.S line)])) p) := Same.trans h3 (del_mono (Same.new ht))
      refine ⟨t, _, rfl, .inl (.inl upd_same), rfl, _, _, rfl, _, _, rfl, rfl, ?_⟩
      generalize upd H2 t (.tup [.int (i : Nat), .str (SX.S line)]) = H4 at *
      have hsz : (SX.S line).cps.size = line.length := by show line.toArray.size = _; rw [List.size_toArray]
      refine ⟨_, rfl, SX.S line, rfl, for_it walk_enumS (fun j σ H' => ∃ (f : Nat) (x5 x6 x7 x8 x9 : Option V) (rs : List Addr), σ = [some (.str z), some (.ref p), some (.int (i : Nat)), some (.str (SX.S line)), some (.str ⟨#[f]⟩), x5, x6, x7, x8, x9] ∧
        H' p = some (.lst (rs.map V.ref)) ∧ Al (Tup (del H' p)) rs (lRun ws0 (i : Int) (line.take j)).ws ∧ Same Hb (del H' p) ∧ inP f = (lRun ws0 (i : Int) (line.take j)).op ∧ WOk (lRun ws0 (i : Int) (line.take j)) (n + j)) ?_ (fun _ _ _ _ _ => trivial) ?_ ?_⟩
      · exact ⟨32, x5, x6, x7, x8, x9, rs, rfl, g1, g2, g3, (show inP 32 = false by decide +kernel), (fun h => by cases h), h5.len, h5.wl⟩
      · rintro j x σ H5 H6 hj ⟨f, x5, x6, x7, x8, x9, rs, rfl, f1, f2, f3, f4, f5⟩ ⟨t2, c, rfl, ht2, rfl, hc⟩
        have hc2 : line[j]? = some c := by
          have e : (SX.S line).cps.toList[j]? = some c := by rw [Array.getElem?_toList]; exact hc
          exact e
        have hc10 : c ≠ 10 := fun e => no10 (by rw [← e]; exact List.mem_of_getElem? hc2)
        obtain ⟨L1, L2_⟩ := lRun_lk (ws := ws0) (row := (i : Int)) (line.take j) (fun m => no10 (List.mem_of_mem_take m))
        have hjl : j < line.length := (List.getElem?_eq_some_iff.mp hc2).1
        rw [List.length_take, Nat.min_eq_left (Nat.le_of_lt hjl)] at L2_
        have step : lRun ws0 (i : Int) (line.take (j + 1)) = wStep (lRun ws0 (i : Int) (line.take j)) c := by rw [take_snoc hc2, lRun_snoc]
        have f1' := Same.new (o := .tup [.int (j : Nat), .str ⟨#[c]⟩]) ht2 _ _ f1
        have f2' : Al (Tup (del (upd H5 t2 (.tup [.int (j : Nat), .str ⟨#[c]⟩])) p)) rs (lRun ws0 (i : Int) (line.take j)).ws := f2.mono fun _ _ q => q.same (del_mono (Same.new ht2))
        have f3' : Same Hb (del (upd H5 t2 (.tup [.int (j : Nat), .str ⟨#[c]⟩])) p) := Same.trans f3 (del_mono (Same.new ht2))
        refine ⟨t2, _, rfl, .inl (.inl upd_same), rfl, _, _, rfl, _, _, rfl, rfl, ?_⟩
        generalize upd H5 t2 (.tup [.int (j : Nat), .str ⟨#[c]⟩]) = H7 at *
        generalize hS : lRun ws0 (i : Int) (line.take j) = S at *
        obtain ⟨ws, l, k_, op⟩ := S
        have L1 : l = (i : Int) + 1 := L1
        have L2_ : k_ = 1 + (j : Int) := L2_
        have ek : k_ = (j : Int) + 1 := by omega
        subst L1
        subst ek
        have f4 : inP f = op := f4
        have hnj : n + j ≤ 100000 := by omega
        -- the end of the turn
        have fin : ∀ (H8 : Hp) (rs' : List Addr) (y7 y8 y9 : Option V), H8 p = some (.lst (rs'.map V.ref)) → Al (Tup (del H8 p)) rs' (wPut ws ((i : Int) + 1) ((j : Int) + 1) op c) → Same Hb (del H8 p) →
            ∃ (f : Nat) (x5 x6 x7 x8 x9 : Option V) (rs : List Addr), [some (.str z), some (.ref p), some (.int (i : Nat)), some (.str (SX.S line)), some (.str ⟨#[c]⟩), some (.int (j : Nat)), some (.str ⟨#[c]⟩), y7, y8, y9] = [some (.str z), some (.ref p), some (.int (i : Nat)), some (.str (SX.S line)), some (V.str ⟨#[f]⟩), x5, x6, x7, x8, x9] ∧
              H8 p = some (.lst (rs.map V.ref)) ∧ Al (Tup (del H8 p)) rs (lRun ws0 (i : Int) (line.take (j + 1))).ws ∧ Same Hb (del H8 p) ∧ inP f = (lRun ws0 (i : Int) (line.take (j + 1))).op ∧ WOk (lRun ws0 (i : Int) (line.take (j + 1))) (n + (j + 1)) := fun H8 rs' y7 y8 y9 w1 w2 w3 => by
          refine ⟨c, _, _, _, _, _, rs', rfl, w1, ?_, w3, ?_, ?_⟩
          · rw [step]
            exact w2
          · rw [step]
            rfl
          · rw [step]
            exact wOk_step f5
        have skipF : (!decide (c = 32)) = false → wPut ws ((i : Int) + 1) ((j : Int) + 1) op c = ws := fun e => by
          have e32 : c = 32 := by simpa using e
          subst e32
          unfold wPut
          rw [show inP 32 = false by decide +kernel, Bool.and_false, if_neg (by decide), if_neg (by decide)]
        refine ⟨_, rfl, rfl, _, rfl, ?_⟩
        rw [show decide (V.str ⟨#[c]⟩ = V.str (Str.ofString " ")) = decide (c = 32) from sign_eq c 32]
        refine ite2 (fun a1 => ?_) (fun a1 => ?_)
        · have e6 : (op && inP c) = false → wPut ws ((i : Int) + 1) ((j : Int) + 1) op c = ws ++ [([c], (i : Int) + 1, (j : Int) + 1)] := fun e => by
            unfold wPut
            rw [e, if_neg (by decide), if_pos (by rw [a1, decide_eq_false hc10]; rfl)]
          refine ⟨_, rfl, c, rfl, _, rfl, ?_⟩
          refine ite2 (fun a2 => ?_) (fun a2 => ?_)
          · refine ⟨_, rfl, f, rfl, _, rfl, ?_⟩
            rw [f4]
            refine ite2 (fun a3 => ?_) (fun a3 => ?_)
            · refine c_grow f5 hnj f1' f2' f3' a3 a2 fun H8 rs' y7 y8 y9 w1 w2 w3 => ?_
              exact ⟨_, rfl, fin H8 rs' y7 y8 y9 w1 w2 w3⟩
            · refine ⟨_, rfl, rfl, _, rfl, ?_⟩
              rw [show decide (V.str ⟨#[c]⟩ = V.str (Str.ofString " ")) = decide (c = 32) from sign_eq c 32, a1]
              refine iteT ?_
              refine c_put f5 hnj f1' f2' f3' (e6 (by rw [Bool.eq_false_iff.mpr a3]; rfl)) fun H8 rs' y7 y8 y9 w1 w2 w3 => ?_
              exact ⟨_, rfl, fin H8 rs' y7 y8 y9 w1 w2 w3⟩
          · refine ⟨_, rfl, rfl, _, rfl, ?_⟩
            rw [show decide (V.str ⟨#[c]⟩ = V.str (Str.ofString " ")) = decide (c = 32) from sign_eq c 32, a1]
            refine iteT ?_
            refine c_put f5 hnj f1' f2' f3' (e6 (by rw [Bool.eq_false_iff.mpr a2, Bool.and_false])) fun H8 rs' y7 y8 y9 w1 w2 w3 => ?_
            exact ⟨_, rfl, fin H8 rs' y7 y8 y9 w1 w2 w3⟩
        · refine ⟨_, rfl, rfl, _, rfl, ?_⟩
          rw [show decide (V.str ⟨#[c]⟩ = V.str (Str.ofString " ")) = decide (c = 32) from sign_eq c 32]
          refine ite2 (fun z => absurd z a1) (fun _ => ?_)
          refine ⟨_, rfl, fin H7 rs _ _ _ f1' ?_ f3'⟩
          rw [skipF (Bool.eq_false_iff.mpr a1)]
          exact f2'
      · rintro σ H5 ⟨f, x5, x6, x7, x8, x9, rs, rfl, f1, f2, f3, f4, f5⟩
        rw [hsz, List.take_length] at f2 f5
        exact ⟨_, _, _, _, _, _, _, _, rs, rfl, f1, by rw [hcut]; exact f2, f3, by rw [hcut, hsum]; exact ⟨(fun h => by cases h), f5.len, f5.wl⟩⟩
    · rintro σ H2 ⟨x2, x3, x4, x5, x6, x7, x8, x9, rs, rfl, h1, h2, h3, _⟩
      rw [List.take_of_length_le (by simp), cut_words] at h2
      exact ⟨_, rfl, k p H2 ⟨hp, Same.trans sHb h3, rs, h1, h2⟩⟩
end
end K00

set_option maxHeartbeats 4000000
namespace K00
open PySem PySem.Spec PyProof.Rows L2 He Sa NdefX
theorem strs_canLay : ∀ zs : List Str, (∀ z ∈ zs, PyData.strOk z = true) → PyData.canLayAll0 (zs.map PyData.str) = true
  | [], _ => rfl
  | z :: zs, h => by
    show (PyData.strOk z && PyData.canLayAll0 (zs.map PyData.str)) = true
    rw [h z List.mem_cons_self, strs_canLay zs fun y hy => h y (List.mem_cons_of_mem _ hy)]
    rfl
theorem strs_depth : ∀ zs : List Str, PyData.depthAll (zs.map PyData.str) = 0
  | [] => rfl
  | z :: zs => by
    show max 0 (PyData.depthAll (zs.map PyData.str)) = 0
    rw [strs_depth zs]
    rfl
theorem strs_shaped {zs : List Str} (h : ∀ z ∈ zs, PyData.strOk z = true) : SeqAt.shaped (.list (zs.map PyData.str)) = true := by
  have h2 : decide (PyData.depthAll (zs.map PyData.str) + 1 ≤ 64) = true := by
    rw [strs_depth]
    rfl
  show (PyData.canLayAll0 (zs.map PyData.str) && decide (PyData.depthAll (zs.map PyData.str) + 1 ≤ 64)) = true
  rw [strs_canLay zs h, h2]
  rfl
theorem strs_dp {K : PySem.W.Frag} {H : Hp} : ∀ zs : List Str, DpAll K H (zs.map V.str) (zs.map PyData.str)
  | [] => .nil
  | _ :: zs => .cons (.str _) (strs_dp zs)
theorem strs_eqv_nil : ∀ zs : List Str, PyData.eqv (.list (zs.map PyData.str)) (.list []) = zs.isEmpty
  | [] => rfl
  | _ :: _ => rfl
section
variable {P : Program} {w : World} {K : PySem.W.Frag} {mg : Str → Option Value} {base : Heap}
/-! ### is_told_name -/
abbrev Nis_told_name : List Str := ["_law_thing", "_law_sign"]
theorem scis_told_name : FnScope Nis_told_name ["_law_thing"] (defScope sis_told_name) := ⟨rfl, rfl, rfl, by decide +kernel, rfl, by decide +kernel, by decide +kernel⟩
def spTold : Sp := fun vs H Q _ => ∃ z, vs = [.str z] ∧ z.length ≤ 1000 ∧ (∀ c ∈ z.cps.toList, c < 128) ∧ ∀ H', Same H H' → Q (.bl (isNm z)) H'
theorem c_told (T : Tx sx K mg) : Cal P w K mg base "_law_is_told_name" 2 ["_law_thing"] spTold := by
  refine T.cal 12 rfl (by decide +kernel) scis_told_name (fun vs H Q E h => ?_) (fun _ _ _ _ _ _ us hl => match us, hl with | [_], _ => rfl) (fun cdv A outer s H vs Q E hr h => ?_)
  · obtain ⟨z, rfl, _⟩ := h
    rfl
  · obtain ⟨z, rfl, hz, ha, k⟩ := h
    refine ⟨_, (pss_cons (ps_if (PW.pt (pw_or (pt_cmpR op_in_seq (pv 0) (pe_cal0 (c_kept T) hr) (by rfl)) (pw_or1 (pt_not (pt_chain op_le op_le pe_int (pe_callB call_len_str (by rfl) (T.free "len") (by decide +kernel) (pa_cons (pv 0) pa_nil)) pe_int))))) (pss_one (ps_ret pe_bl)) pss_nil)
    (pss_one (ps_ret (pe_cmpR (op_eqD hr.units) (pe_lc (own := [("_law_sign", 1)]) (g := gName 1) rfl scis_told_name.nd (pi_str (pv 0)) (blkOk_by (N := Nis_told_name) (sc := defScope sis_told_name) (by decide +kernel)) (fun _ _ _ _ _ => (pg_name (i := 1) scis_told_name.nd rfl (Or.inl rfl))) (fun _ _ _ _ _ => (pts_one (pt_not (pt_chain op_le_str op_le_str pe_str (pv 1) pe_str)))) (fun _ _ _ _ _ => (pv 1))) (pe_lst pa_nil) (nomark _))))), ?_⟩
    have no : ∀ H', Same H H' → isNm z = false → Q (.bl false) H' := fun H' s' e => by
      have q := k H' s'
      rw [e] at q
      exact q
    refine ⟨_, rfl, rfl, fun p hp => ?_⟩
    have s1 := Same.new (o := .lst (keptL.map V.str)) hp
    have hp1 : upd H p (.lst (keptL.map V.str)) p = some (.lst (keptL.map V.str)) := upd_same
    generalize upd H p (.lst (keptL.map V.str)) = H1 at *
    refine ⟨p, keptL.map V.str, rfl, .inl (.inl (.inl hp1)), rfl, by decide +kernel, _, rfl, ?_⟩
    refine ite2 (fun a1 => ?_) (fun a1 => ?_)
    · refine no H1 s1 ?_
      unfold isNm kp
      rw [show inV (.str z) (keptL.map V.str) = true from a1]
      simp
    · have a1 : kp z = false := Bool.eq_false_iff.mpr a1
      refine ⟨_, rfl, z, rfl, Nat.le_trans hz (by decide), _, _, rfl, rfl, _, rfl, ?_⟩
      refine ite2 (fun a2 => ?_) (fun a2 => ?_)
      · have a2 := of_decide_eq_true a2
        refine ⟨_, _, rfl, rfl, _, rfl, ?_⟩
        by_cases a3 : z.length ≤ 8
        · rw [decide_eq_true (show ((z.length : Nat) : Int) ≤ 8 by omega)]
          refine iteF ?_
          have ea : isNm z = z.cps.toList.all low := by
            unfold isNm
            rw [a1, decide_eq_true a3, decide_eq_true (show 1 ≤ z.length by omega)]
            rfl
          refine ⟨_, rfl, z, rfl, fun D nD => lc_it walk_str (fun i H' => ∃ cs : List Nat, H' D = some (.lst ((cs.map fun c => (⟨#[c]⟩ : Str)).map V.str)) ∧ cs = (z.cps.toList.take i).filter (fun c => !low c) ∧ Same H1 H') ⟨[], upd_same, rfl, Same.new nD⟩ (fun _ _ _ _ => trivial) ?_ ?_⟩
          · rintro i x H2 H3 hi ⟨cs, b1, b2, b3⟩ ⟨rfl, c, hc, rfl⟩
            have hc2 : z.cps.toList[i]? = some c := by rw [Array.getElem?_toList]; exact hc
            have hlow : low c = btw 97 122 c := by rw [low_abc, btw_eq]
            have hin : ∀ b : Bool, b = !low c → (if b = true then ∃ acc, H3 D = some (HO.lst acc) ∧ acc.length < sizeLine ∧ ∃ cs : List Nat, upd H3 D (HO.lst (acc ++ [V.str ⟨#[c]⟩])) D = some (.lst ((cs.map fun c => (⟨#[c]⟩ : Str)).map V.str)) ∧ cs = (z.cps.toList.take (i + 1)).filter (fun c => !low c) ∧ Same H1 (upd H3 D (HO.lst (acc ++ [V.str ⟨#[c]⟩])))
                else ∃ cs : List Nat, H3 D = some (.lst ((cs.map fun c => (⟨#[c]⟩ : Str)).map V.str)) ∧ cs = (z.cps.toList.take (i + 1)).filter (fun c => !low c) ∧ Same H1 H3) := fun b eb => by
              rw [take_snoc hc2, List.filter_append, ← b2]
              refine ite2 (fun e => ?_) (fun e => ?_)
              · refine ⟨_, b1, ?_, cs ++ [c], by rw [upd_same, List.map_append, List.map_append]; rfl, ?_, ?_⟩
                · rw [List.length_map, List.length_map, b2]
                  refine small1000 (Nat.le_trans (List.length_filter_le _ _) ?_)
                  rw [List.length_take]
                  exact Nat.le_trans (Nat.min_le_right _ _) (by rw [Array.length_toList]; exact hz)
                · rw [show [c].filter (fun c => !low c) = [c] by rw [List.filter_cons, if_pos (by rw [← eb]; exact e)]; rfl]
                · exact fun b' o w => by
                    rw [upd_ne (ne_of_none w nD)]
                    exact b3 b' o w
              · refine ⟨cs, b1, ?_, b3⟩
                rw [show [c].filter (fun c => !low c) = [] by rw [List.filter_cons, if_neg (by rw [← eb]; exact e)]; rfl, List.append_nil]
            have e97 : low c = ((!decide ([c] < [97])) && (!decide ([122] < [c]))) := hlow
            refine ⟨rfl, _, rfl, _, _, rfl, rfl, _, rfl, ?_⟩
            refine ite2 (fun c1 => ?_) (fun c1 => ?_)
            · refine ⟨_, _, rfl, rfl, _, rfl, ?_⟩
              have q := hin (!(!decide ([122] < [c]))) (by
                have c1 : (!decide ([c] < [97])) = true := c1
                rw [e97, c1, Bool.true_and])
              refine ite2 (fun e => ⟨_, rfl, ?_⟩) (fun e => ?_)
              · rw [if_pos (show (!(!decide ([122] < [c]))) = true from e)] at q
                exact q
              · rw [if_neg (show ¬ (!(!decide ([122] < [c]))) = true from e)] at q
                exact q
            · have q := hin true (by
                have c1 : (!decide ([c] < [97])) = false := Bool.eq_false_iff.mpr c1
                rw [e97, c1, Bool.false_and]
                rfl)
              rw [if_pos rfl] at q
              exact ⟨_, rfl, iteT ⟨_, rfl, q⟩⟩
          · rintro H2 ⟨cs, b1, b2, b3⟩
            rw [List.take_of_length_le (by simp)] at b2
            refine ⟨Nat.zero_le _, fun q hq => ?_⟩
            have nDq : D ≠ q := ne_of_none b1 hq
            refine ⟨_, _, .lst (.inl (.inl (by rw [upd_ne nDq]; exact b1))) (strs_dp _), .lst (.inl (.inl upd_same)) .nil, strs_shaped ?_, by decide +kernel, ?_⟩
            · intro y hy
              obtain ⟨c, hc, rfl⟩ := List.mem_map.mp hy
              rw [b2] at hc
              have hc := ha c (List.mem_filter.mp hc).1
              show (#[c] : Array Nat).all (· < 0x110000) = true
              simp
              omega
            · rw [strs_eqv_nil]
              have q2 := k _ (Same.trans s1 (Same.trans b3 (Same.new (o := .lst []) hq)))
              rw [ea] at q2
              have e : z.cps.toList.all low = (cs.map fun c => (⟨#[c]⟩ : Str)).isEmpty := by
                rw [b2, List.isEmpty_map]
                cases h : z.cps.toList.all low with
                | true =>
                  symm
                  rw [List.isEmpty_iff, List.filter_eq_nil_iff]
                  intro c hc
                  rw [List.all_eq_true.mp h c hc]
                  decide
                | false =>
                  symm
                  rw [Bool.eq_false_iff]
                  intro h2
                  rw [List.isEmpty_iff, List.filter_eq_nil_iff] at h2
                  rw [Bool.eq_false_iff] at h
                  refine h (List.all_eq_true.mpr fun c hc => ?_)
                  have z := h2 c hc
                  cases l : low c with
                  | true => rfl
                  | false =>
                    rw [l] at z
                    exact absurd rfl z
              rw [e] at q2
              exact q2
        · rw [decide_eq_false (show ¬ ((z.length : Nat) : Int) ≤ 8 by omega)]
          refine no H1 s1 ?_
          unfold isNm
          rw [decide_eq_false a3, Bool.and_false, Bool.false_and]
      · have a2 : ¬ (1 : Int) ≤ ((z.length : Nat) : Int) := fun e => a2 (decide_eq_true e)
        refine ⟨_, rfl, no H1 s1 ?_⟩
        unfold isNm
        rw [decide_eq_false (show ¬ 1 ≤ z.length by omega), Bool.false_and, Bool.false_and]
end
end K00

set_option maxHeartbeats 4000000
namespace K00
open PySem PySem.Spec PyProof.Rows L2 He Sa NdefX
theorem txo_eq (c : Nat) : txo c = (decide (c = 10) || (decide (32 ≤ c) && decide (c ≤ 126))) := by
  have e := btw_eq 32 126 c
  unfold btw at e
  unfold txo
  rw [e]
theorem low_txo {c : Nat} (h : low c = true) : txo c = true := by
  rw [low_abc] at h
  obtain ⟨a, b⟩ := ba h
  rw [txo_eq, decide_eq_true (show 32 ≤ c from Nat.le_trans (by decide) (of_decide_eq_true a)), decide_eq_true (show c ≤ 126 from Nat.le_trans (of_decide_eq_true b) (by decide))]
  simp
theorem txo_128 {c : Nat} (h : txo c = true) : c < 128 := by
  rw [txo_eq, Bool.or_eq_true, Bool.and_eq_true] at h
  rcases h with h | ⟨_, h⟩
  · have := of_decide_eq_true h
    omega
  · have := of_decide_eq_true h
    omega
/-- a piece of a text -/
def Pc (z : Str) : Prop := z.length ≤ 9 ∧ ∀ c ∈ z.cps.toList, txo c = true
theorem nm_pc {z : Str} (h : Nm z) : Pc z := ⟨Nat.le_succ_of_le h.1, fun c hc => low_txo (h.2 c hc)⟩
def signsS : Str := " !\"#$&'()*+,-./0123456789:;<=>?@ABCDEFGHIJKLMNOPQRSTUVWXYZ[\\]^_`abcdefghijklmnopqrstuvwxyz{|}~"
def fillL : List Str := [" ", " ", "\n", "  ", " \n", ":", ",", ": "]
theorem fill_pc : ∀ z ∈ fillL, Pc z := by
  have e : (fillL.all fun z => decide (z.length ≤ 9) && z.cps.toList.all txo) = true := by decide +kernel
  intro z hz
  obtain ⟨a, b⟩ := ba (List.all_eq_true.mp e z hz)
  exact ⟨of_decide_eq_true a, fun c hc => List.all_eq_true.mp b c hc⟩
section
variable {P : Program} {w : World} {K : PySem.W.Frag} {mg : Str → Option Value} {base : Heap}
abbrev Npiece : List Str := ["_law_draw", "_law_signs", "_law_way"]
theorem scpiece : FnScope Npiece ["_law_draw"] (defScope spiece) := ⟨rfl, rfl, rfl, by decide +kernel, rfl, by decide +kernel, by decide +kernel⟩
def spPiece : Sp := fun vs H Q _ => ∃ (d aw ac : Addr) (n : Int), vs = [.ref d] ∧ Draw H d aw ac n ∧ n < 10000000000 ∧ ∀ z H', Pc z → Keep d aw H H' → Draw H' d aw ac (n + 25) → Q (.str z) H'
theorem c_piece (T : Tx sx K mg) : Cal P w K mg base "_law_piece" 5 ["_law_draw"] spPiece := by
  refine T.cal 11 rfl (by decide +kernel) scpiece (fun vs H Q E h => ?_) (fun _ _ _ _ _ _ us hl => match us, hl with | [_], _ => rfl) (fun cdv A outer s H vs Q E hr h => ?_)
  · obtain ⟨d, aw, ac, n, rfl, _⟩ := h
    rfl
  · obtain ⟨d, aw, ac, n, rfl, D, hn, k⟩ := h
    refine ⟨_, (pss_cons (ps_set (i := 1) scpiece.nd rfl (Or.inl rfl) pe_str)
    (pss_cons (ps_set (i := 2) scpiece.nd rfl (Or.inl rfl) (pe_cal (c_take T) hr (pa_cons (pv 0) (pa_cons pe_int pa_nil))))
    (pss_cons (ps_if (pt_cmpR op_lt (pv 2) pe_int (nomark _)) (pss_one (ps_ret (pe_cal (c_any_name T) hr (pa_cons (pv 0) pa_nil)))) pss_nil)
    (pss_cons (ps_if (pt_cmpR op_lt (pv 2) pe_int (nomark _)) (pss_one (ps_ret (pe_cal (c_pick T) hr (pa_cons (pv 0) (pa_cons (pe_lst (pa_cons pe_str (pa_cons pe_str (pa_cons pe_str (pa_cons pe_str (pa_cons pe_str (pa_cons pe_str (pa_cons pe_str (pa_cons pe_str pa_nil))))))))) pa_nil))))) pss_nil)
    (pss_cons (ps_if (pt_cmpR op_eq (pv 2) pe_int (nomark _)) (pss_one (ps_ret (pe_cal (c_pick T) hr (pa_cons (pv 0) (pa_cons (pe_cal0 (c_kept T) hr) pa_nil))))) pss_nil)
    (pss_one (ps_ret (pe_op op_add_str (pe_ix ix_str (pv 1) (pe_cal (c_take T) hr (pa_cons (pv 0) (pa_cons (pe_callB call_len_str (by rfl) (T.free "len") (by decide +kernel) (pa_cons (pv 1) pa_nil)) pa_nil))) (fun _ _ => rfl)) (pe_ifExp (pt_cmpR op_eq (pv 2) pe_int (nomark _)) (pe_ix ix_str (pv 1) (pe_cal (c_take T) hr (pa_cons (pv 0) (pa_cons (pe_callB call_len_str (by rfl) (T.free "len") (by decide +kernel) (pa_cons (pv 1) pa_nil)) pa_nil))) (fun _ _ => rfl)) pe_str))))))))), ?_⟩
    refine ⟨_, rfl, d, aw, ac, n, 9, rfl, D, by omega, ⟨by decide, by decide⟩, fun r H1 r1 r2 K1 D1 => ?_⟩
    refine ⟨_, rfl, _, _, rfl, rfl, _, rfl, ?_⟩
    refine ite2 (fun a1 => ?_) (fun a1 => ?_)
    · exact ⟨_, rfl, d, aw, ac, n + 1, rfl, D1, by omega, fun z H2 hz K2 D2 => k z H2 (nm_pc hz) (Keep.trans K1 K2) (D2.mono (by omega))⟩
    refine ⟨_, rfl, _, _, rfl, rfl, _, rfl, ?_⟩
    refine ite2 (fun a2 => ?_) (fun a2 => ?_)
    · refine ⟨_, rfl, by show 8 ≤ sizeLine; decide, fun l hl => ?_⟩
      obtain ⟨q1, q2⟩ := draw_fresh D1 hl
      refine ⟨d, aw, ac, l, n + 1, fillL.map V.str, rfl, D1.same (Same.new hl), by omega, .inl (.inl upd_same), q2, q1, by decide, by decide, fun i x H3 hx K3 D3 => ?_⟩
      obtain ⟨z, hz, rfl⟩ := str_mem hx
      exact k z H3 (fill_pc z hz) (Keep.trans K1 (Keep.trans (Same.keep (Same.new hl)) K3)) (D3.mono (by omega))
    refine ⟨_, rfl, rfl, _, rfl, ?_⟩
    refine ite2 (fun a3 => ?_) (fun a3 => ?_)
    · refine ⟨_, rfl, rfl, fun q hq => ?_⟩
      obtain ⟨q1, q2⟩ := draw_fresh D1 hq
      refine ⟨d, aw, ac, q, n + 1, keptL.map V.str, rfl, D1.same (Same.new hq), by omega, .inl (.inl upd_same), q2, q1, by decide +kernel, by decide +kernel, fun i x H3 hx K3 D3 => ?_⟩
      obtain ⟨z, hz, rfl⟩ := str_mem hx
      exact k z H3 (nm_pc (kept_nm z hz)) (Keep.trans K1 (Keep.trans (Same.keep (Same.new hq)) K3)) (D3.mono (by omega))
    have len94 : signsS.length = 94 := by decide +kernel
    have at_ : ∀ r : Int, 0 ≤ r → r < 94 → ∃ c, atI signsS.cps.toList r = some c ∧ txo c = true := fun r b1 b2 => by
      have l : signsS.cps.toList.length = 94 := by decide +kernel
      refine ⟨_, show atI signsS.cps.toList r = some (signsS.cps.toList[r.toNat]'(by omega)) from ?_, ?_⟩
      · show (ixN signsS.cps.toList.length r).bind _ = _
        unfold ixN
        rw [if_pos b1, if_pos (show r < ((signsS.cps.toList.length : Nat) : Int) by omega)]
        exact List.getElem?_eq_getElem (by omega)
      · have e : signsS.cps.toList.all txo = true := by decide +kernel
        exact List.all_eq_true.mp e _ (List.getElem_mem _)
    refine ⟨_, rfl, _, rfl, _, rfl, signsS, rfl, by rw [len94]; decide, d, aw, ac, n + 1, 94, by rw [len94]; rfl, D1, by omega, ⟨by decide, by decide⟩, fun r2 H2 b1 b2 K2 D2 => ?_⟩
    obtain ⟨c, hc, tc⟩ := at_ r2 b1 b2
    refine ⟨signsS, r2, c, rfl, rfl, by rw [len94]; decide, hc, ?_⟩
    refine ⟨_, rfl, rfl, _, rfl, ?_⟩
    refine ite2 (fun a4 => ?_) (fun a4 => ?_)
    · refine ⟨_, rfl, _, rfl, _, rfl, signsS, rfl, by rw [len94]; decide, d, aw, ac, n + 1 + 1, 94, by rw [len94]; rfl, D2, by omega, ⟨by decide, by decide⟩, fun r3 H3 b3 b4 K3 D3 => ?_⟩
      obtain ⟨c2, hc2, tc2⟩ := at_ r3 b3 b4
      refine ⟨signsS, r3, c2, rfl, rfl, by rw [len94]; decide, hc2, _, _, rfl, rfl, by show 1 + 1 ≤ sizeLine; decide, k _ _ ⟨by show 2 ≤ 9; decide, fun c' hc' => ?_⟩ (Keep.trans K1 (Keep.trans K2 K3)) (D3.mono (by omega))⟩
      rw [cps_app] at hc'
      rcases List.mem_append.mp hc' with m | m
      · rw [show c' = c by simpa using m]
        exact tc
      · rw [show c' = c2 by simpa using m]
        exact tc2
    · refine ⟨_, _, rfl, rfl, by show 1 + 0 ≤ sizeLine; decide, k _ _ ⟨by show 1 ≤ 9; decide, fun c' hc' => ?_⟩ (Keep.trans K1 K2) (D2.mono (by omega))⟩
      rw [cps_app] at hc'
      rcases List.mem_append.mp hc' with m | m
      · rw [show c' = c by simpa using m]
        exact tc
      · cases (show c' ∈ ([] : List Nat) from m)
end
end K00

set_option maxHeartbeats 4000000
namespace K00
open PySem PySem.Spec PyProof.Rows L2 He Sa NdefX
/-- a text of ASCII, at most n signs -/
def As (n : Nat) (z : Str) : Prop := z.length ≤ n ∧ ∀ c ∈ z.cps.toList, c < 128
theorem as_app {n m : Nat} {a b : Str} (h : As n a) (g : As m b) : As (n + m) (a ++ b) := by
  refine ⟨by rw [len_app]; exact Nat.add_le_add h.1 g.1, fun c hc => ?_⟩
  rw [cps_app] at hc
  exact (List.mem_append.mp hc).elim (h.2 c) (g.2 c)
theorem as_cut {n : Nat} {a : Str} {lo hi : Option Int} (h : As n a) : As n (cutS a lo hi) := ⟨Nat.le_trans (cutS_length _ _ _) h.1, fun c hc => h.2 c (mem_cutS hc)⟩
theorem as_upper {n : Nat} {a : Str} (h : As n a) : As n (Txt.upper a) := by
  have e := SX.upper_S (a := a.cps.toList) (List.all_eq_true.mpr fun c hc => decide_eq_true (h.2 c hc))
  rw [SX.S_tl] at e
  rw [e]
  refine ⟨?_, fun c hc => ?_⟩
  · rw [SX.S_len, List.length_map, Array.length_toList]
    exact h.1
  · have hc : c ∈ a.cps.toList.map PyProof.Rows.up1 := hc
    obtain ⟨x, hx, rfl⟩ := List.mem_map.mp hc
    have := h.2 x hx
    unfold PyProof.Rows.up1
    split <;> omega
theorem nm_as {z : Str} (h : Nm z) : As 8 z := ⟨h.1, fun c hc => txo_128 (low_txo (h.2 c hc))⟩
theorem as_lit {z : Str} (h : (decide (z.length ≤ 10) && z.cps.toList.all fun c => decide (c < 128)) = true) : As 10 z := by
  obtain ⟨a, b⟩ := ba h
  exact ⟨of_decide_eq_true a, fun c hc => of_decide_eq_true (List.all_eq_true.mp b c hc)⟩
theorem as_le {n m : Nat} {z : Str} (h : As n z) (l : n ≤ m) : As m z := ⟨Nat.le_trans h.1 l, h.2⟩
theorem as_sum {n m : Nat} {a b : Str} (h : As n a) (g : As m b) (l : n + m ≤ 1000) : a.length + b.length ≤ sizeLine := Nat.le_trans (Nat.add_le_add h.1 g.1) (Nat.le_trans l (by decide))
section
variable {P : Program} {w : World} {K : PySem.W.Frag} {mg : Str → Option Value} {base : Heap}
abbrev Nnames_right : List Str := ["_law_draw", "_law_word", "_law_kept_here", "_law_some", "_law_one", "_law_odd"]
theorem scnames_right : FnScope Nnames_right ["_law_draw"] (defScope snames_right) := ⟨rfl, rfl, rfl, by decide +kernel, rfl, by decide +kernel, by decide +kernel⟩
def spRight : Sp := fun vs H Q _ => ∃ (d aw ac : Addr) (n : Int), vs = [.ref d] ∧ Draw H d aw ac n ∧ n < 10000000000 ∧ ∀ H', Keep d aw H H' → Draw H' d aw ac (n + 25) → Q (.bl true) H'
theorem k_is_name (T : Tx sx K mg) : CalK P w K mg base "is_name" 1 ["thing"] ["thing"] (fun _ zs => zs) (spIsName K) :=
  (c_is_name T).key T 0 rfl (fun _ ws => ws) (fun _ _ _ _ _ _ ws hl => match ws, hl with | [_], _ => rfl) (fun _ r => r)
theorem c_right (T : Tx sx K mg) : Cal P w K mg base "_law_names_right" 5 ["_law_draw"] spRight := by
  refine T.cal 13 rfl (by decide +kernel) scnames_right (fun vs H Q E h => ?_) (fun _ _ _ _ _ _ us hl => match us, hl with | [_], _ => rfl) (fun cdv A outer s H vs Q E hr h => ?_)
  · obtain ⟨d, aw, ac, n, rfl, _⟩ := h
    rfl
  · obtain ⟨d, aw, ac, n, rfl, D, hn, k⟩ := h
    refine ⟨_, (pss_cons (ps_par (i := 1) (j := 2) (by rfl) scnames_right.nd rfl rfl (by decide) rfl rfl (pa_cons (pe_cal (c_any_name T) hr (pa_cons (pv 0) pa_nil)) (pa_cons (pe_cal (c_pick T) hr (pa_cons (pv 0) (pa_cons (pe_cal0 (c_kept T) hr) pa_nil))) pa_nil)) (by rfl))
    (pss_cons (ps_set (i := 3) scnames_right.nd rfl (Or.inl rfl) (pe_lst (pa_cons (pv 1) (pa_cons (pv 2) (pa_cons (pe_op op_add_str (pv 2) pe_str) (pa_cons (pe_slice sl_str (pv 2) (po_some pe_int) po_none) (pa_cons (pe_op op_add_str (pv 1) (pv 1)) (pa_cons (pe_op op_add_str (pv 1) (pe_op op_mul_str pe_str pe_int)) (pa_cons (pe_upper (pv 1)) (pa_cons (pe_op op_add_str (pv 1) pe_str) (pa_cons (pe_op op_add_str (pv 1) pe_str) (pa_cons (pe_op op_add_str pe_str (pv 1)) (pa_cons (pe_op op_add_str (pv 1) pe_str) (pa_cons pe_str pa_nil))))))))))))))
    (pss_cons (ps_for PassesOwn.never rfl (pi_list (pv 3)) (pg_name (i := 4) scnames_right.nd rfl (Or.inl rfl)) (pss_one (ps_if (PW.pt (pw_or (pt_cmpR op_ne (pe_cal (c_is_name T) hr (pa_cons (pv 4) pa_nil)) (pe_cal (c_told T) hr (pa_cons (pv 4) pa_nil)) (nomark _)) (pw_or1 (pt_cmpR op_ne (pe_calK (k_is_name T) hr (pk_cons (pv 4) pk_nil)) (pe_cal (c_is_name T) hr (pa_cons (pv 4) pa_nil)) (nomark _))))) (pss_one (ps_ret pe_bl)) pss_nil)))
    (pss_cons (ps_set (i := 5) scnames_right.nd rfl (Or.inl rfl) (pe_lst (pa_cons pe_non (pa_cons pe_int (pa_cons pe_int (pa_cons pe_bl (pa_cons (pe_tup (pa_cons (pv 1) pa_nil)) (pa_cons (pe_lst (pa_cons (pv 1) pa_nil)) (pa_cons (pe_disp (pps_cons (pv 1) (pv 1) pps_nil) (by rfl) (by rfl) (fun z => by cases z) (by decide)) (pa_cons (pe_tup pa_nil) (pa_cons pe_dnewK pa_nil)))))))))))
    (pss_one (ps_ret (pe_and (pe_cmpR (op_eqD hr.units) (pe_lc (own := [("_law_one", 4)]) (g := gName 4) rfl scnames_right.nd (pi_list (pv 5)) (blkOk_by (N := Nnames_right) (sc := defScope snames_right) (by decide +kernel)) (fun _ _ _ _ _ => (pg_name (i := 4) scnames_right.nd rfl (Or.inl rfl))) (fun _ _ _ _ _ => (pts_one (pt_val (pe_cal (c_is_name T) hr (pa_cons (pv 4) pa_nil))))) (fun _ _ _ _ _ => (pv 4))) (pe_lst pa_nil) (nomark _)) (pe_one (pe_cmpR (op_eqD hr.units) (pe_lc (own := [("_law_one", 4)]) (g := gName 4) rfl scnames_right.nd (pi_list (pe_cal0 (c_kept T) hr)) (blkOk_by (N := Nnames_right) (sc := defScope snames_right) (by decide +kernel)) (fun _ _ _ _ _ => (pg_name (i := 4) scnames_right.nd rfl (Or.inl rfl))) (fun _ _ _ _ _ => (pts_one (pt_val (pe_cal (c_is_name T) hr (pa_cons (pv 4) pa_nil))))) (fun _ _ _ _ _ => (pv 4))) (pe_lst pa_nil) (nomark _)))))))))), ?_⟩
    refine ⟨_, rfl, d, aw, ac, n, rfl, D, by omega, fun z1 H1 n1 K1 D1 => ?_⟩
    refine ⟨_, rfl, rfl, fun q hq => ?_⟩
    obtain ⟨q1, q2⟩ := draw_fresh D1 hq
    refine ⟨d, aw, ac, q, n + 20, keptL.map V.str, rfl, D1.same (Same.new hq), by omega, .inl (.inl upd_same), q2, q1, by decide +kernel, by decide +kernel, fun i x H2 hx K2 D2 => ?_⟩
    obtain ⟨z2, hz2, rfl⟩ := str_mem hx
    have w1 := nm_as n1
    have w2 := nm_as (kept_nm z2 hz2)
    have K2' := Keep.trans K1 (Keep.trans (Same.keep (Same.new hq)) K2)
    clear K2 hx hq D1 K1 n1 D
    refine ⟨_, _, rfl, ?_⟩
    refine ⟨_, rfl, _, rfl, _, rfl, z2, "s", rfl, rfl, as_sum w2 (as_lit (by decide +kernel) : As 10 "s") (by decide), ?_⟩
    have lit : ∀ z : Str, (decide (z.length ≤ 10) && z.cps.toList.all fun c => decide (c < 128)) = true → As 10 z := fun z h => as_lit h
    have l1 := lit "1" (by decide +kernel)
    have l2 := lit "_" (by decide +kernel)
    have l3 := lit " " (by decide +kernel)
    have l4 := lit "\n" (by decide +kernel)
    have l5 := lit "s" (by decide +kernel)
    have l6 := lit (Txt.mul "q" 8) (by decide +kernel)
    have l7 := lit "" (by decide +kernel)
    refine ⟨_, rfl, _, rfl, z2, rfl, Nat.le_trans w2.1 (by decide), ?_⟩
    refine ⟨_, rfl, _, rfl, z1, z1, rfl, rfl, as_sum w1 w1 (by decide), ?_⟩
    refine ⟨_, rfl, "q", 8, rfl, rfl, ⟨by decide, by decide, by decide⟩, z1, Txt.mul "q" 8, rfl, rfl, as_sum w1 l6 (by decide), ?_⟩
    refine ⟨_, rfl, ⟨z1, rfl⟩, z1, rfl, rfl, Nat.le_trans w1.1 (by decide), ?_⟩
    refine ⟨_, rfl, z1, "1", rfl, rfl, as_sum w1 l1 (by decide), ?_⟩
    refine ⟨_, rfl, z1, "_", rfl, rfl, as_sum w1 l2 (by decide), ?_⟩
    refine ⟨_, rfl, " ", z1, rfl, rfl, as_sum l3 w1 (by decide), ?_⟩
    refine ⟨_, rfl, z1, "\n", rfl, rfl, as_sum w1 l4 (by decide), ?_⟩
    refine ⟨by show 12 ≤ sizeLine; decide, fun l hl => ?_⟩
    obtain ⟨ys, hys⟩ : ∃ ys : List Str, ys = [z1, z2, z2 ++ "s", cutS z2 (some 1) none, z1 ++ z1, z1 ++ Txt.mul "q" 8, Txt.upper z1, z1 ++ "1", z1 ++ "_", " " ++ z1, z1 ++ "\n", ""] := ⟨_, rfl⟩
    have yOk : ∀ y ∈ ys, As 18 y := by
      rw [hys]
      intro y hy
      simp only [List.mem_cons, List.not_mem_nil, or_false] at hy
      rcases hy with rfl | rfl | rfl | rfl | rfl | rfl | rfl | rfl | rfl | rfl | rfl | rfl
      · exact as_le w1 (by decide)
      · exact as_le w2 (by decide)
      · exact as_app w2 l5
      · exact as_le (as_cut w2) (by decide)
      · exact as_le (as_app w1 w1) (by decide)
      · exact as_app w1 l6
      · exact as_le (as_upper w1) (by decide)
      · exact as_app w1 l1
      · exact as_app w1 l2
      · exact as_le (as_app l3 w1) (by decide)
      · exact as_app w1 l4
      · exact as_le l7 (by decide)
    have eList : [V.str z1, .str z2, .str (z2 ++ "s"), .str (cutS z2 (some 1) none), .str (z1 ++ z1), .str (z1 ++ Txt.mul "q" 8), .str (Txt.upper z1), .str (z1 ++ "1"), .str (z1 ++ "_"), .str (" " ++ z1), .str (z1 ++ "\n"), .str ""] = ys.map V.str := by rw [hys]; rfl
    have hl3 : upd H2 l (.lst (ys.map V.str)) l = some (.lst (ys.map V.str)) := upd_same
    have D3 := D2.same (Same.new (o := .lst (ys.map V.str)) hl)
    have K3 := Keep.trans K2' (Same.keep (d := d) (aw := aw) (Same.new (o := .lst (ys.map V.str)) hl))
    rw [← eList] at hl3 D3 K3
    generalize hH3 : upd H2 l (.lst [V.str z1, .str z2, .str (z2 ++ "s"), .str (cutS z2 (some 1) none), .str (z1 ++ z1), .str (z1 ++ Txt.mul "q" 8), .str (Txt.upper z1), .str (z1 ++ "1"), .str (z1 ++ "_"), .str (" " ++ z1), .str (z1 ++ "\n"), .str ""]) = H3 at hl3 D3 K3
    rw [eList] at hl3
    have neF : ∀ b : Bool, (!decide (V.bl b = V.bl b)) = false := fun b => by rw [decide_eq_true rfl]; rfl
    refine ⟨_, rfl, l, rfl, ⟨_, .inl (.inl hl3)⟩, for_list (K := K) (a := l) (xs := ys.map V.str) (fun _ σ H' => Same H3 H' ∧ ∃ x4 x5 : Option V, σ = [some (.ref d), some (.str z1), some (.str z2), some (.ref l), x4, x5])
      ⟨Same.refl _, _, _, rfl⟩ (fun _ _ _ _ z => .inl (.inl (z.1 _ _ hl3))) ?_ ?_⟩
    · rintro j x σ H4 hj ⟨s4, x4, x5, rfl⟩
      obtain ⟨y, hy, rfl⟩ := str_mem hj
      have oy := yOk y hy
      have y6 : y.length ≤ 1000000 := Nat.le_trans oy.1 (by decide)
      refine ⟨_, rfl, .str y, rfl, .inl ⟨y, rfl, y6, fun H5 s5 => ?_⟩⟩
      refine ⟨_, rfl, y, rfl, Nat.le_trans oy.1 (by decide), oy.2, fun H6 s6 => ⟨rfl, _, rfl, ?_⟩⟩
      rw [neF]
      refine iteF ?_
      refine ⟨_, rfl, rfl, rfl, .str y, rfl, .inl ⟨y, rfl, y6, fun H7 s7 => ?_⟩⟩
      refine ⟨_, rfl, .str y, rfl, .inl ⟨y, rfl, y6, fun H8 s8 => ⟨rfl, _, rfl, ?_⟩⟩⟩
      rw [neF]
      exact iteF ⟨Same.trans s4 (Same.trans (Same.trans s5 s6) (Same.trans s7 s8)), _, _, rfl⟩
    · rintro σ H4 ⟨s4, x4, x5, rfl⟩
      have D4 := D3.same s4
      have K4 := Keep.trans K3 (Same.keep (d := d) (aw := aw) s4)
      refine ⟨_, rfl, by show 1 ≤ sizeLine; decide, fun t1 ht1 => ⟨_, rfl, by show 1 ≤ sizeLine; decide, fun t2 ht2 => fun t3 ht3 => ?_⟩⟩
      refine ⟨_, rfl, _, rfl, upd_same, [(Sum.inr z1, V.str z1)], rfl, by show 1 ≤ 15; decide, ?_⟩
      have e1 := Same.new (o := .tup [V.str z1]) ht1
      have g1 : upd H4 t1 (.tup [V.str z1]) t1 = some (.tup [V.str z1]) := upd_same
      generalize upd H4 t1 (.tup [V.str z1]) = A1 at *
      have e2 := Same.new (o := .lst [V.str z1]) ht2
      have g2 : upd A1 t2 (.lst [V.str z1]) t2 = some (.lst [V.str z1]) := upd_same
      generalize upd A1 t2 (.lst [V.str z1]) = A2 at *
      have e3 : Same A2 (upd (upd A2 t3 (.dK [])) t3 (.dK (mergeK [] [(Sum.inr z1, V.str z1)]))) := fun b o z => by
        rw [upd_ne (ne_of_none z ht3), upd_ne (ne_of_none z ht3)]
        exact z
      have g3 : upd (upd A2 t3 (.dK [])) t3 (.dK (mergeK [] [(Sum.inr z1, V.str z1)])) t3 = some (.dK (mergeK [] [(Sum.inr z1, V.str z1)])) := upd_same
      generalize upd (upd A2 t3 (.dK [])) t3 (.dK (mergeK [] [(Sum.inr z1, V.str z1)])) = A3 at *
      refine ⟨Nat.zero_le _, fun t4 ht4 => ?_⟩
      have e4 := Same.new (o := .tup []) ht4
      have g4 : upd A3 t4 (.tup []) t4 = some (.tup []) := upd_same
      generalize upd A3 t4 (.tup []) = A4 at *
      refine fun t5 ht5 => ?_
      have e5 := Same.new (o := .dK []) ht5
      have g5 : upd A4 t5 (.dK []) t5 = some (.dK []) := upd_same
      generalize upd A4 t5 (.dK []) = A5 at *
      refine ⟨by show 9 ≤ sizeLine; decide, fun o1 ho1 => ?_⟩
      obtain ⟨xs, hxs⟩ : ∃ xs : List V, xs = [.non, .int 5, .int 0, .bl true, .ref t1, .ref t2, .ref t3, .ref t4, .ref t5] := ⟨_, rfl⟩
      have e6 := Same.new (o := .lst xs) ho1
      have g6 : upd A5 o1 (.lst xs) o1 = some (.lst xs) := upd_same
      rw [hxs] at e6 g6
      generalize hA6 : upd A5 o1 (.lst [.non, .int 5, .int 0, .bl true, .ref t1, .ref t2, .ref t3, .ref t4, .ref t5]) = A6 at *
      have sA : Same H4 A6 := Same.trans e1 (Same.trans e2 (Same.trans e3 (Same.trans e4 (Same.trans e5 e6))))
      have nos : ∀ H', Same A6 H' → ∀ x ∈ xs, NoStr K H' x := by
        rw [hxs]
        intro H' sm x hx
        simp only [List.mem_cons, List.not_mem_nil, or_false] at hx
        rcases hx with rfl | rfl | rfl | rfl | rfl | rfl | rfl | rfl | rfl
        · exact ⟨_, .base .non, by decide +kernel⟩
        · exact ⟨_, .base (.int _), by decide +kernel⟩
        · exact ⟨_, .base (.int _), by decide +kernel⟩
        · exact ⟨_, .base (.bl _), by decide +kernel⟩
        · exact ⟨_, .base (.tup (sm _ _ (Same.trans e2 (Same.trans e3 (Same.trans e4 (Same.trans e5 e6))) _ _ g1))), by decide +kernel⟩
        · exact ⟨_, .base (.lst (sm _ _ (Same.trans e3 (Same.trans e4 (Same.trans e5 e6)) _ _ g2))), by decide +kernel⟩
        · exact ⟨_, .base (.dK (sm _ _ (Same.trans e4 (Same.trans e5 e6) _ _ g3))), by decide +kernel⟩
        · exact ⟨_, .base (.tup (sm _ _ (Same.trans e5 e6 _ _ g4))), by decide +kernel⟩
        · exact ⟨_, .base (.dK (sm _ _ (e6 _ _ g5))), by decide +kernel⟩
      rw [← hxs] at g6
      have D6 := D4.same sA
      have K6 := Keep.trans K4 (Same.keep (d := d) (aw := aw) sA)
      clear e1 e2 e3 e4 e5 e6 g1 g2 g3 g4 g5 ht1 ht2 ht3 ht4 ht5
      refine ⟨_, rfl, o1, rfl, ⟨_, .inl (.inl g6)⟩, fun E1 nE1 => lc_list (K := K) (a := o1) (xs := xs) (fun i H' => H' E1 = some (.lst []) ∧ Same A6 H') ⟨upd_same, Same.new nE1⟩ (fun i H' _ z => .inl (.inl (z.2 _ _ g6))) ?_ ?_⟩
      · rintro i x B hi ⟨b1, b2⟩
        exact ⟨rfl, _, rfl, x, rfl, .inr ⟨nos B b2 x (List.mem_of_getElem? hi), _, rfl, iteF ⟨b1, b2⟩⟩⟩
      · rintro B ⟨b1, b2⟩
        refine ⟨Nat.zero_le _, fun o2 ho2 => ?_⟩
        have nE2 : E1 ≠ o2 := ne_of_none b1 ho2
        refine ⟨.list [], .list [], .lst (.inl (.inl (by rw [upd_ne nE2]; exact b1))) .nil, .lst (.inl (.inl upd_same)) .nil, by decide +kernel, by decide +kernel, _, rfl, ?_⟩
        refine iteT ?_
        have b3 := Same.trans b2 (Same.new (o := .lst []) ho2)
        generalize upd B o2 (.lst []) = B1 at *
        refine ⟨rfl, fun o3 ho3 => ?_⟩
        have b4 := Same.trans b3 (Same.new (o := .lst (keptL.map V.str)) ho3)
        have g7 : upd B1 o3 (.lst (keptL.map V.str)) o3 = some (.lst (keptL.map V.str)) := upd_same
        generalize upd B1 o3 (.lst (keptL.map V.str)) = B2 at *
        refine ⟨o3, rfl, ⟨_, .inl (.inl g7)⟩, fun E2 nE2' => lc_list (K := K) (a := o3) (xs := keptL.map V.str) (fun i H' => H' E2 = some (.lst []) ∧ Same B2 H') ⟨upd_same, Same.new nE2'⟩ (fun i H' _ z => .inl (.inl (z.2 _ _ g7))) ?_ ?_⟩
        · rintro i x C hi ⟨c1, c2⟩
          obtain ⟨z, hz, rfl⟩ := str_mem hi
          refine ⟨rfl, _, rfl, .str z, rfl, .inl ⟨z, rfl, Nat.le_trans (kept_nm z hz).1 (by decide), fun C' s' => ?_⟩⟩
          have e : isNm z = false := by
            have e : (keptL.all fun z => !isNm z) = true := by decide +kernel
            have q := List.all_eq_true.mp e z hz
            simpa using q
          rw [e]
          exact ⟨_, rfl, iteF ⟨s' _ _ c1, Same.trans c2 s'⟩⟩
        · rintro C ⟨c1, c2⟩
          refine ⟨Nat.zero_le _, fun o4 ho4 => ?_⟩
          have nE4 : E2 ≠ o4 := ne_of_none c1 ho4
          refine ⟨.list [], .list [], .lst (.inl (.inl (by rw [upd_ne nE4]; exact c1))) .nil, .lst (.inl (.inl upd_same)) .nil, by decide +kernel, by decide +kernel, ?_⟩
          have sF := Same.trans b4 (Same.trans c2 (Same.new (o := .lst []) ho4))
          exact k _ (Keep.trans K6 (Same.keep sF)) ((D6.same sF).mono (by omega))
end
end K00

set_option maxHeartbeats 4000000
namespace K00
open PySem PySem.Spec PyProof.Rows L2 He Sa NdefX
/-- a word as data -/
def wd (d : Wd) : PyData := .tuple [.str ⟨d.1.toArray⟩, .int d.2.1, .int d.2.2]
theorem words_dp {K : PySem.W.Frag} {H : Hp} : ∀ {rs : List Addr} {ws : List Wd}, Al (Tup H) rs ws → DpAll K H (rs.map V.ref) (ws.map wd)
  | _, _, .nil => .nil
  | _, _, .cons h r => .cons (.tup (.inl (.inl h)) (.cons (.str _) (.cons (.int _) (.cons (.int _) .nil)))) (words_dp r)
theorem words_dq {K : PySem.W.Frag} {H : Hp} : ∀ {rs : List Addr} {ws : List Wd}, Al (Tup H) rs ws → DqAll K H (rs.map V.ref) (ws.map wd)
  | _, _, .nil => .nil
  | _, _, .cons h r => .cons (.tup (.inl (.inl h)) (.cons (.str _) (.cons (.int _) (.cons (.int _) .nil)))) (words_dq r)
/-- a word of a text of at most n signs -/
structure WG (n : Nat) (d : Wd) : Prop where
  len : d.1.length ≤ n
  chs : ∀ c ∈ d.1, c < 128
  l0 : 0 ≤ d.2.1
  l1 : d.2.1 ≤ n + 1
  k0 : 0 ≤ d.2.2
  k1 : d.2.2 ≤ n + 1
structure SG (n : Nat) (s : WS) : Prop where
  ws : ∀ d ∈ s.ws, WG n d
  l0 : 0 ≤ s.l
  l1 : s.l ≤ n + 1
  k0 : 0 ≤ s.k
  k1 : s.k ≤ n + 1
theorem WG.succ {n : Nat} {d : Wd} (h : WG n d) : WG (n + 1) d := by
  obtain ⟨a, b, c, e, f, g⟩ := h
  exact ⟨by omega, b, c, by push_cast; omega, f, by push_cast; omega⟩
theorem sg_step {n c : Nat} {s : WS} (h : SG n s) (hc : c < 128) : SG (n + 1) (wStep s c) := by
  obtain ⟨h1, h2, h3, h4, h5⟩ := h
  refine ⟨fun d hd => ?_, ?_, ?_, ?_, ?_⟩
  · have hd : d ∈ wPut s.ws s.l s.k s.op c := hd
    unfold wPut wGrow at hd
    split at hd
    · split at hd
      · rename_i e _ q
        rcases List.mem_append.mp hd with m | m
        · exact (h1 d (List.dropLast_subset _ m)).succ
        · rw [List.mem_singleton.mp m]
          obtain ⟨a1, a2, a3, a4, a5, a6⟩ := h1 _ (List.mem_of_getLast? q)
          refine ⟨?_, fun c' hc' => ?_, a3, by show _ ≤ ((n + 1 : Nat) : Int) + 1; push_cast; omega, a5, by show _ ≤ ((n + 1 : Nat) : Int) + 1; push_cast; omega⟩
          · show (_ ++ [c]).length ≤ n + 1
            rw [List.length_append]
            exact Nat.succ_le_succ a1
          · rcases List.mem_append.mp hc' with m | m
            · exact a2 c' m
            · rw [List.mem_singleton.mp m]
              exact hc
      · exact (h1 d hd).succ
    · split at hd
      · rcases List.mem_append.mp hd with m | m
        · exact (h1 d m).succ
        · rw [List.mem_singleton.mp m]
          exact ⟨by show 1 ≤ n + 1; omega, fun c' hc' => by rw [List.mem_singleton.mp hc']; exact hc, h2, by show s.l ≤ ((n + 1 : Nat) : Int) + 1; push_cast; omega, h4, by show s.k ≤ ((n + 1 : Nat) : Int) + 1; push_cast; omega⟩
      · exact (h1 d hd).succ
  · show 0 ≤ (if c = 10 then s.l + 1 else s.l)
    split <;> omega
  · show (if c = 10 then s.l + 1 else s.l) ≤ ((n + 1 : Nat) : Int) + 1
    push_cast
    split <;> omega
  · show 0 ≤ (if c = 10 then 1 else s.k + 1)
    split <;> omega
  · show (if c = 10 then 1 else s.k + 1) ≤ ((n + 1 : Nat) : Int) + 1
    push_cast
    split <;> omega
theorem sg_run : ∀ (cs : List Nat) (n : Nat) (s : WS), SG n s → (∀ c ∈ cs, c < 128) → SG (n + cs.length) (cs.foldl wStep s)
  | [], n, s, h, _ => h
  | c :: r, n, s, h, hc => by
    have q := sg_run r (n + 1) (wStep s c) (sg_step h (hc c List.mem_cons_self)) (fun x hx => hc x (List.mem_cons_of_mem _ hx))
    rw [show n + (c :: r).length = n + 1 + r.length by rw [List.length_cons]; omega]
    exact q
theorem words_wg {z : Str} (h : ∀ c ∈ z.cps.toList, c < 128) : ∀ d ∈ wordsF z, WG z.length d := by
  have q := sg_run z.cps.toList 0 ⟨[], 1, 1, false⟩ ⟨(fun d hd => nomatch hd), by decide, by decide, by decide, by decide⟩ h
  rw [Nat.zero_add, Array.length_toList] at q
  exact q.ws
theorem words_len (z : Str) : (wordsF z).length ≤ z.length := by
  have q := (wRun_ok z.cps.toList z.cps.toList.length (Nat.le_refl _)).len
  rw [List.take_length, Array.length_toList] at q
  exact q
theorem int_text : ∀ i : Int, 0 ≤ i → i ≤ 700 → (PyData.int i).shown.length ≤ 4 ∧ (PyData.int i).showable = true := by
  have e : ((List.range 701).all fun n => decide ((PyData.int (n : Nat)).shown.length ≤ 4) && (PyData.int (n : Nat)).showable) = true := by decide +kernel
  intro i h0 h1
  obtain ⟨a, b⟩ := ba (List.all_eq_true.mp e i.toNat (List.mem_range.mpr (by omega)))
  rw [show ((i.toNat : Nat) : Int) = i by omega] at a b
  exact ⟨of_decide_eq_true a, b⟩
theorem wd_len {n : Nat} {d : Wd} (h : WG n d) (hn : n ≤ 600) : (wd d).shown.length ≤ 6100 := by
  obtain ⟨a, b, c, e, f, g⟩ := h
  have i1 := (int_text d.2.1 c (by omega)).1
  have i2 := (int_text d.2.2 f (by omega)).1
  have r := StrLaws.reprText_len ⟨d.1.toArray⟩ (fun c hc => Nat.lt_trans (b c hc) (by decide))
  have rl : (⟨d.1.toArray⟩ : Str).length = d.1.length := by show d.1.toArray.size = _; rw [List.size_toArray]
  rw [rl] at r
  show (tupleText [reprText ⟨d.1.toArray⟩, (PyData.int d.2.1).shown, (PyData.int d.2.2).shown]).length ≤ 6100
  have j := join_length_add [reprText ⟨d.1.toArray⟩, (PyData.int d.2.1).shown, (PyData.int d.2.2).shown] (by simp)
  rw [piled_cons, piled_cons, piled_cons, piled_nil] at j
  unfold tupleText
  rw [Str.length_append, Str.length_append]
  have o1 : ("(" : Str).length = 1 := rfl
  have o2 : (if ([reprText ⟨d.1.toArray⟩, (PyData.int d.2.1).shown, (PyData.int d.2.2).shown] : List Str).length == 1 then ",)" else ")" : String) = ")" := rfl
  rw [o1, o2]
  have o3 : ((")" : String) : Str).length = 1 := rfl
  rw [o3]
  omega
theorem wd_ok {n : Nat} {d : Wd} (h : WG n d) (hn : n ≤ 600) : (wd d).showable = true := by
  obtain ⟨a, b, c, e, f, g⟩ := h
  have i1 := (int_text d.2.1 c (by omega)).2
  have i2 := (int_text d.2.2 f (by omega)).2
  show (true && ((PyData.int d.2.1).showable && ((PyData.int d.2.2).showable && true))) = true
  rw [i1, i2]
  rfl
theorem piled_le {ts : List Str} {m : Nat} (h : ∀ t ∈ ts, t.length ≤ m) : piled ts ≤ ts.length * (m + 2) := by
  induction ts with
  | nil => exact Nat.zero_le _
  | cons t r ih =>
    rw [piled_cons, List.length_cons, Nat.succ_mul]
    have := h t List.mem_cons_self
    have := ih fun x hx => h x (List.mem_cons_of_mem _ hx)
    omega
theorem listText_le (ts : List Str) : (listText ts).length ≤ 2 + piled ts := by
  cases ts with
  | nil => exact (by decide)
  | cons t r =>
    have h := textFrom_length_pos r 1 (("[" : Str) ++ (if (0 : Nat) > 0 then ", " else "" : String) ++ t) (Nat.succ_pos 0)
    have e : ((("[" : Str) ++ (if (0 : Nat) > 0 then ", " else "" : String) ++ t)).length = 1 + t.length := by
      rw [Str.length_append, Str.length_append]
      rfl
    show (textFrom 1 _ r ++ "]").length ≤ _
    rw [Str.length_append, h, e, piled_cons]
    have o : ("]" : Str).length = 1 := rfl
    omega
theorem shownAll_map {β : Type} (f : β → PyData) : ∀ l : List β, PyData.shownAll (l.map f) = l.map fun x => (f x).shown
  | [] => rfl
  | x :: l => by
    show (f x).shown :: PyData.shownAll (l.map f) = _
    rw [shownAll_map f l]
    rfl
theorem showAll_map {β : Type} (f : β → PyData) : ∀ l : List β, (∀ x ∈ l, (f x).showable = true) → PyData.showableAll (l.map f) = true
  | [], _ => rfl
  | x :: l, h => by
    show ((f x).showable && PyData.showableAll (l.map f)) = true
    rw [h x List.mem_cons_self, showAll_map f l fun y hy => h y (List.mem_cons_of_mem _ hy)]
    rfl
theorem depth_map (l : List Wd) : PyData.depthAll (l.map wd) ≤ 1 := by
  induction l with
  | nil => exact Nat.zero_le _
  | cons x l ih =>
    show max (PyData.depth (wd x)) (PyData.depthAll (l.map wd)) ≤ 1
    have e : PyData.depth (wd x) = 1 := rfl
    rw [e]
    omega
theorem canLay_map : ∀ l : List Wd, (∀ d ∈ l, ∀ c ∈ d.1, c < 128) → PyData.canLayAll0 (l.map wd) = true
  | [], _ => rfl
  | x :: l, h => by
    show (PyData.canLay0 (wd x) && PyData.canLayAll0 (l.map wd)) = true
    rw [canLay_map l fun y hy => h y (List.mem_cons_of_mem _ hy), Bool.and_true]
    show (PyData.strOk ⟨x.1.toArray⟩ && (true && (true && true))) = true
    have e : PyData.strOk ⟨x.1.toArray⟩ = true := by
      show x.1.toArray.all (· < 0x110000) = true
      rw [List.all_toArray]
      exact List.all_eq_true.mpr fun c hc => decide_eq_true (Nat.lt_trans (h x List.mem_cons_self c hc) (by decide))
    rw [e]
    rfl
theorem words_shaped {ws : List Wd} (h : ∀ d ∈ ws, ∀ c ∈ d.1, c < 128) : SeqAt.shaped (.list (ws.map wd)) = true := by
  have h2 : decide (PyData.depthAll (ws.map wd) + 1 ≤ 64) = true := decide_eq_true (by have := depth_map ws; omega)
  show (PyData.canLayAll0 (ws.map wd) && decide (PyData.depthAll (ws.map wd) + 1 ≤ 64)) = true
  rw [canLay_map ws h, h2]
  rfl
theorem words_eqv {ws : List Wd} (h : ∀ d ∈ ws, ∀ c ∈ d.1, c < 128) : PyData.eqv (.list (ws.map wd)) (.list (ws.map wd)) = true := PySem.SeqAt.eqv_refl _ (canLay_map ws h)
theorem words_okD {ws : List Wd} {n : Nat} (hn : n ≤ 600) (hl : ws.length ≤ 600) (h : ∀ d ∈ ws, WG n d) : okD (.list (ws.map wd)) = true := by
  have a : PyData.showable (.list (ws.map wd)) = true := showAll_map wd ws fun d hd => wd_ok (h d hd) hn
  have b : PyData.depth (.list (ws.map wd)) < 60 := by
    show PyData.depthAll (ws.map wd) + 1 < 60
    have := depth_map ws
    omega
  have c : (PyData.list (ws.map wd)).shown.length ≤ sizeLine := by
    show (listText (PyData.shownAll (ws.map wd))).length ≤ sizeLine
    rw [shownAll_map]
    refine Nat.le_trans (listText_le _) ?_
    have p := piled_le (ts := ws.map fun x => (wd x).shown) (m := 6100) (fun t ht => by
      obtain ⟨d, hd, rfl⟩ := List.mem_map.mp ht
      exact wd_len (h d hd) hn)
    rw [List.length_map] at p
    have : ws.length * (6100 + 2) ≤ 600 * 6102 := Nat.mul_le_mul_right _ hl
    exact Nat.le_trans (Nat.add_le_add_left (Nat.le_trans p this) 2) (by decide)
  unfold okD
  rw [a, decide_eq_true b, decide_eq_true c]
  rfl
end K00

set_option maxHeartbeats 4000000
namespace Sa
open PySem PySem.Spec PyProof.Rows L2 He NdefX
theorem Tx.sup_xf {sp : Sx} {K : PySem.W.Frag} {mg : Str → Option Value} {P : Program} {d : SupD} (T : Tx sp K mg) (hf : P.main.file = theFile) (i : Nat) (h : sp.sups[i]? = some d) :
    ExcC K (ga K d.cls) ∧ ∀ f ∈ d.flds, PySem.W.findIn K (.ref (ga K d.cls)) f = some none := by
  obtain ⟨_, X, n⟩ := T.sup i hf h
  exact ⟨X, n⟩
/-- a call that may raise, in a try's body -/
theorem pe_calS {X : Cx} {x : Str} {j k : Nat} {ps : List Str} {sp : Sp} {p pos : Pos} {e : Expr} {es : List Expr} {t : TA} {W : WX} (C : Cal X.prog X.w X.K X.mg X.base x k ps sp) (hr : Room j X.A) (tk : Takes X W) (ha : PA X (e :: es) t) (hk : k ≤ j := by decide) (hg : Gl X x := by rfl)
    (hdb : (x == ("__debug__" : Str)) = false := by decide) (he : starEach (e :: es) X.env = (false, eval e X.env) :: starEach es X.env := by rfl) (hpl : (backTo pos (starEach es X.env)).any (·.1) = false := by rfl) :
    PE X (.Call (.Name x p) (e :: es) [] pos) (tCallS sp (fun σ => WE W σ) t) := by
  obtain ⟨fd, F, b, _⟩ := C.ok
  exact pe_callS F (hr.mono hk) hg C.at_ C.kp b (fun σ => passAt tk σ) ha hdb he hpl
end Sa
namespace K00
open PySem PySem.Spec PyProof.Rows L2 He Sa NdefX
section
variable {P : Program} {w : World} {K : PySem.W.Frag} {mg : Str → Option Value} {base : Heap}
abbrev Nlaw : List Str := ["_law_script", "_law_draw", "_law_turn", "_law_text", "_law_k", "_law_told", "_law_odd", "_law_caught", "error"]
theorem sclaw : FnScope Nlaw ["_law_script"] (defScope slaw) := ⟨rfl, rfl, rfl, by decide +kernel, rfl, by decide +kernel, by decide +kernel⟩
def spLaw (K : PySem.W.Frag) : Sp := fun vs H Q _ => ∃ (a : Addr) (ns : List Int), vs = [.ref a] ∧ SqL K H a (ns.map V.int) ∧ ns.length ≤ 63 ∧ ∀ H', Q (.bl true) H'
theorem cut_last (l : List V) (x : V) : cutV (l ++ [x]) none (some (-1)) = l := by
  have e : HT.sIx (l ++ [x]).length (l ++ [x]).length (some (-1)) = l.length := by
    rw [List.length_append]
    show (if (-1 : Int) < 0 then ((-1 : Int) + ((l.length + 1 : Nat) : Int)).toNat else min (-1 : Int).toNat (l.length + 1)) = _
    rw [if_pos (by decide)]
    omega
  unfold cutV
  rw [e]
  show ((l ++ [x]).drop 0).take (l.length - 0) = l
  rw [List.drop_zero, Nat.sub_zero, List.take_left]
/-- what words_of refuses -/
def Bad (K : PySem.W.Frag) (H : Hp) (x : V) : Prop := (∃ z, x = .str z ∧ z.length ≤ 100000 ∧ isTx z = false) ∨ NoStr K H x
theorem bad_text {a b : Str} (h : a.length + b.length ≤ 100000) (h9 : 9 ∈ a.cps.toList ∨ 9 ∈ b.cps.toList) : ∃ z, V.str (a ++ b) = .str z ∧ z.length ≤ 100000 ∧ isTx z = false := by
  refine ⟨a ++ b, rfl, by rw [len_app]; exact h, ?_⟩
  rw [Bool.eq_false_iff]
  intro e
  have m : 9 ∈ (a ++ b).cps.toList := by
    rw [cps_app]
    exact List.mem_append.mpr h9
  exact absurd (List.all_eq_true.mp e 9 m) (by decide +kernel)
theorem k_words (T : Tx sx K mg) (p : Pok P) : CalK P w K mg base "words_of" 3 ["text"] ["text"] (fun _ zs => zs) (spWords K) :=
  (c_words_of T p).key T 2 rfl (fun _ ws => ws) (fun _ _ _ _ _ _ ws hl => match ws, hl with | [_], _ => rfl) (fun _ r => r)
theorem law_G {fd : FuncData} (T : Tx sx K mg) (pk : Pok P) (F : FunD K "law" "law" (defArgs slaw) (defBody slaw) (defScope slaw) [] [] (ga K "law") fd) : FnG P w K mg base (L2.CX P w) 7 (ga K "law") fd ["_law_script"] (spLaw K) := by
  refine funG_nox F sclaw (fun vs H Q E h => ?_) (fun cdv A outer s H vs Q E hgd hr h => ?_)
  · obtain ⟨a, ns, rfl, _⟩ := h
    rfl
  · obtain ⟨a, ns, rfl, hS, hlen, k⟩ := h
    have hu := hu_of hr
    have hun := hr.units
    have hge : (A.deeper (envOfC "law" (defScope slaw) s.heap.objs.size (ga K "law") cdv)).guards = some [] := guards_deeper hgd _
    refine ⟨_, (pss_cons (ps_set (i := 1) sclaw.nd rfl (Or.inr rfl) (pe_cal (c_begun T) hr (pa_cons (pv 0) pa_nil)))
    (pss_cons (ps_if (pt_cmpR (op_neD hr.units) (pe_glob (v := .ref (ga K "KEPT")) rfl (T.glo "KEPT") rfl) (pe_callTy call_tuple_of (by rfl) (T.free "tuple") (by decide +kernel) (pa_cons (pe_cal0 (c_kept T) hr) pa_nil)) (nomark _)) (pss_one (ps_ret pe_bl)) pss_nil)
    (pss_cons (ps_for PassesOwn.never rfl (pi_range1 rfl (T.free "range") (pa_cons (pe_op op_add pe_int (pe_callB (call_min2 rfl) (by rfl) (T.free "min") (by decide +kernel) (pa_cons (pe_callB call_len_seq (by rfl) (T.free "len") (by decide +kernel) (pa_cons (pv 0) pa_nil)) (pa_cons pe_int pa_nil)))) pa_nil)) (pg_name (i := 2) sclaw.nd rfl (Or.inl rfl)) (pss_cons (ps_set (i := 3) sclaw.nd rfl (Or.inl rfl) (pe_join pe_str (pe_lc (own := [("_law_k", 4)]) (g := gName 4) (tt := tYes) rfl sclaw.nd (pi_range1 rfl (T.free "range") (pa_cons (pe_cal (c_pick T) hr (pa_cons (pv 1) (pa_cons (pe_lst (pa_cons pe_int (pa_cons pe_int (pa_cons pe_int (pa_cons pe_int (pa_cons pe_int (pa_cons pe_int (pa_cons pe_int pa_nil)))))))) pa_nil))) pa_nil)) (blkOk_by (N := Nlaw) (sc := defScope slaw) (by decide +kernel)) (fun _ _ _ _ _ => (pg_name (i := 4) sclaw.nd rfl (Or.inl rfl))) (fun _ _ _ _ _ => pts_nil) (fun _ _ _ _ _ => (pe_cal (c_piece T) hr (pa_cons (pv 1) pa_nil))))))
    (pss_cons (ps_set (i := 5) sclaw.nd rfl (Or.inl rfl) (pe_cal (c_words_of T pk) hr (pa_cons (pv 3) pa_nil)))
    (pss_cons (ps_if (PW.pt (pw_or (pt_cmpR op_ne (pe_callB (call_reprD T.sys hge hun) (by rfl) (T.free "repr") (by decide +kernel) (pa_cons (pv 5) pa_nil)) (pe_callB (call_reprD T.sys hge hun) (by rfl) (T.free "repr") (by decide +kernel) (pa_cons (pe_cal (c_cut T) hr (pa_cons (pv 3) pa_nil)) pa_nil)) (nomark _)) (pw_or1 (pt_not (pt_val (pe_cal (c_right T) hr (pa_cons (pv 1) pa_nil))))))) (pss_one (ps_ret pe_bl)) pss_nil)
    (pss_cons (ps_expr (pe_bm PySem.F.plainAttrs_list PySem.F.slot_list_append PySem.F.type_list_append mt_append (pv 5) (pa_cons (pe_tup (pa_cons pe_str (pa_cons pe_int (pa_cons pe_int pa_nil)))) pa_nil)))
    (pss_cons (ps_if (pt_cmpR (op_neD hr.units) (pe_calK (k_words T pk) hr (pk_cons (pv 3) pk_nil)) (pe_slice sl_list (pv 5) po_none (po_some (pe_un un_neg pe_int))) (nomark _)) (pss_one (ps_ret pe_bl)) pss_nil)
    (pss_cons (ps_set (i := 6) sclaw.nd rfl (Or.inl rfl) (pe_cal (c_pick T) hr (pa_cons (pv 1) (pa_cons (pe_lst (pa_cons pe_non (pa_cons pe_int (pa_cons pe_bl (pa_cons (pe_lst (pa_cons (pv 3) pa_nil)) (pa_cons (pe_tup (pa_cons (pv 3) pa_nil)) (pa_cons pe_dnewK (pa_cons (pe_op op_add_str (pv 3) pe_str) (pa_cons (pe_op op_add_str pe_str (pv 3)) (pa_cons (pe_lst (pa_cons pe_str (pa_cons pe_str pa_nil))) (pa_cons pe_int pa_nil))))))))))) pa_nil))))
    (pss_cons (ps_set (i := 7) sclaw.nd rfl (Or.inl rfl) pe_non)
    (pss_cons (ps_try_asV (i := 8) rfl rfl sclaw.nd rfl rfl rfl ⟨rfl, by decide, .inl (T.glo "PageError")⟩ takes0 (fun W pn xe tk _ => pss_one (ps_expr (pe_calS (c_words_of T pk) hr tk (pa_cons (pv 6) pa_nil)))) (fun a oe cls d pn hz hf => pss_one (ps_set (i := 7) sclaw.nd rfl (Or.inl rfl) (pv 8))))
    (pss_one (ps_if (PW.pt (pw_or (pt_not (pt_val (pe_callB call_isE2 (by rfl) (T.free "isinstance") (by decide +kernel) (pa_cons (pv 7) (pa_cons (pe_glob (v := .ref (ga K "BadText")) rfl (T.glo "BadText") rfl) pa_nil))))) (pw_or1 (pt_cmpR (op_neD hr.units) (pe_tup (pa_cons (pe_xcat (pv 7)) (pa_cons (pe_xcat (pv 7)) (pa_cons (pe_xcat (pv 7)) pa_nil)))) (pe_tup (pa_cons pe_non (pa_cons pe_non (pa_cons pe_non pa_nil)))) (nomark _))))) (pss_one (ps_ret pe_bl)) pss_nil)))))))))))
    (pss_one (ps_ret pe_bl))))), ?_⟩
    refine ⟨_, rfl, a, ns, rfl, hS, hlen, fun H1 d aw ac s1 nd naw nac D1 => ?_⟩
    refine ⟨rfl, fun q hq => ⟨q, _, rfl, .inl ⟨.inl (.inl upd_same), fun l hl => ?_⟩⟩⟩
    have stOk : SeqAt.shaped (.tuple (keptL.map PyData.str)) = true := by decide +kernel
    refine ⟨.tuple (keptL.map PyData.str), .tuple (keptL.map PyData.str), .tup (kept_at T _) (strs_dp keptL), .tup (.inl (.inl upd_same)) (strs_dp keptL), stOk, stOk, _, rfl, ?_⟩
    rw [show PyData.eqv (.tuple (keptL.map PyData.str)) (.tuple (keptL.map PyData.str)) = true by decide +kernel]
    refine iteF ?_
    have s2 := Same.trans (Same.new (o := .lst (keptL.map V.str)) hq) (Same.new (o := .tup (keptL.map V.str)) hl)
    have D2 := D1.same s2
    have hS2 := Same.seqL (Same.trans s1 s2) hS
    generalize upd (upd H1 q (.lst (keptL.map V.str))) l (.tup (keptL.map V.str)) = H2 at *
    have hj9 : (3 + if (6 : Int) < ((ns.map V.int).length : Nat) then 6 else (((ns.map V.int).length : Nat) : Int)) ≤ 9 := by
      split <;> omega
    have hj0 : (0 : Int) ≤ (3 + if (6 : Int) < ((ns.map V.int).length : Nat) then 6 else (((ns.map V.int).length : Nat) : Int)) := by
      split <;> omega
    refine ⟨_, rfl, a, ns.map V.int, rfl, .inl hS2, _, _, rfl, _, _, rfl, rfl, _, rfl, by omega, by omega, ?_⟩
    generalize (3 + if (6 : Int) < ((ns.map V.int).length : Nat) then 6 else (((ns.map V.int).length : Nat) : Int)) = j at *
    refine for_it walk_range (fun i σ H' => ∃ x2 x3 x4 x5 x6 x7 x8 : Option V, σ = [some (.ref a), some (.ref d), x2, x3, x4, x5, x6, x7, x8] ∧ Draw H' d aw ac (3000 * (i : Int))) ⟨_, _, _, _, _, _, _, rfl, D2.mono (by omega)⟩ (fun _ _ _ _ _ => trivial) ?_ ?_
    · rintro i x σ A0 A1 hi ⟨x2, x3, x4, x5, x6, x7, x8, rfl, DA⟩ ⟨rfl, rfl⟩
      have hi9 : i < 9 := by omega
      refine ⟨⟨"", rfl⟩, ?_⟩
      refine ⟨_, rfl, by show 7 ≤ sizeLine; decide, fun l hl => ?_⟩
      obtain ⟨q1, q2⟩ := draw_fresh DA hl
      refine ⟨d, aw, ac, l, 3000 * (i : Int), _, rfl, DA.same (Same.new hl), by omega, .inl (.inl upd_same), q2, q1, by decide, by decide, fun i2 x A3 hx KA DB => ?_⟩
      obtain ⟨j2, rfl, j1, j3⟩ : ∃ j : Int, x = .int j ∧ 0 ≤ j ∧ j ≤ 60 := by
        have e : ([V.int 0, .int 1, .int 2, .int 5, .int 12, .int 30, .int 60].all fun v => match v with
          | .int j => decide (0 ≤ j) && decide (j ≤ 60)
          | _ => false) = true := by decide
        have m := List.all_eq_true.mp e x (List.mem_of_getElem? hx)
        cases x with
        | int j =>
          obtain ⟨a, b⟩ := ba m
          exact ⟨j, rfl, of_decide_eq_true a, of_decide_eq_true b⟩
        | _ => cases m
      clear KA hx q1 q2
      refine ⟨j2, rfl, by omega, by omega, fun Dl nD => lc_it walk_range (fun i3 H' => ∃ ys : List Str, ys.length = i3 ∧ (∀ y ∈ ys, Pc y) ∧ H' Dl = some (.lst (ys.map V.str)) ∧ Draw H' d aw ac (3000 * (i : Int) + 1 + 25 * (i3 : Int))) ?_ (fun _ _ _ _ => trivial) ?_ ?_⟩
      · exact ⟨[], rfl, (fun y hy => nomatch hy), upd_same, (DB.same (Same.new nD)).mono (by omega)⟩
      · rintro i3 x B1 B2 hi3 ⟨ys, c1, c2, c3, c4⟩ ⟨rfl, rfl⟩
        refine ⟨rfl, ?_⟩
        delta tYes
        refine ifT ?_
        obtain ⟨w1, w2⟩ := draw_fresh DB nD
        have w3 := draw_fresh_ac DB nD
        have hi60 : i3 < 60 := by omega
        refine ⟨_, rfl, d, aw, ac, _, rfl, c4, by omega, fun z B3 hz K3 D3 => ?_⟩
        refine ⟨_, K3 _ _ c3 w1 w2, ?_, ys ++ [z], by rw [List.length_append, c1]; rfl, fun y hy => (List.mem_append.mp hy).elim (c2 y) (fun m => by rw [List.mem_singleton.mp m]; exact hz), by rw [upd_same, List.map_append]; rfl, ?_⟩
        · rw [List.length_map, c1]
          exact small1000 (by omega)
        · refine draw_upd (D3.mono ?_) w1 w2 w3
          push_cast
          omega
      · rintro B1 ⟨ys, c1, c2, c3, c4⟩
        have sumL : (ys.map (·.length)).sum ≤ 9 * ys.length := by
          clear c1 c3 c4
          induction ys with
          | nil => exact Nat.zero_le _
          | cons y r ih =>
            have h1 := (c2 y List.mem_cons_self).1
            have h2 := ih fun x hx => c2 x (List.mem_cons_of_mem _ hx)
            rw [List.map_cons, List.sum_cons, List.length_cons]
            omega
        have hz540 : (ys.map (·.length)).sum ≤ 540 := by
          have : ys.length ≤ 60 := by omega
          omega
        refine ⟨"", Dl, ys, rfl, rfl, .inl (.inl (.inl c3)), ?_, ?_⟩
        · show _ + ys.length * 0 ≤ _
          omega
        rw [join_flat]
        have zlen : (⟨(ys.flatMap fun y => y.cps.toList).toArray⟩ : Str).length ≤ 540 := by
          show (ys.flatMap fun y => y.cps.toList).toArray.size ≤ 540
          rw [List.size_toArray, List.length_flatMap]
          have e : (ys.map fun y => y.cps.toList.length) = ys.map (·.length) := List.map_congr_left fun y _ => Array.length_toList
          rw [e]
          exact hz540
        have zch : ∀ c ∈ (⟨(ys.flatMap fun y => y.cps.toList).toArray⟩ : Str).cps.toList, txo c = true := fun c hc => by
          have hc : c ∈ ys.flatMap fun y => y.cps.toList := by simpa using hc
          obtain ⟨y, hy, hcy⟩ := List.mem_flatMap.mp hc
          exact (c2 y hy).2 c hcy
        generalize (⟨(ys.flatMap fun y => y.cps.toList).toArray⟩ : Str) = z at *
        have zT : isTx z = true := List.all_eq_true.mpr zch
        have z128 : ∀ c ∈ z.cps.toList, c < 128 := fun c hc => txo_128 (zch c hc)
        have ch := fun d hd => (words_wg z128 d hd).chs
        have wsh := words_shaped ch
        have okW := words_okD (n := z.length) (by omega) (Nat.le_trans (words_len z) (by omega)) (words_wg z128)
        obtain ⟨k1, k2⟩ := ba okW
        obtain ⟨k2, k3⟩ := ba k2
        have k2 := of_decide_eq_true k2
        have k3 := of_decide_eq_true k3
        have c4 : Draw B1 d aw ac (3000 * (i : Int) + 1501) := c4.mono (by omega)
        clear c1 c2 c3 sumL hz540 zch nD DB
        refine ⟨_, rfl, .str z, rfl, .inl ⟨z, rfl, by omega, zT, fun p C1 WA => ?_⟩⟩
        obtain ⟨np, sp_, rs, hp, tp⟩ := WA
        obtain ⟨p1, p2⟩ := draw_fresh c4 np
        have npc' := draw_fresh_ac c4 np
        have sBC : Same B1 C1 := Same.trans sp_ del_sub
        have D5 := c4.same sBC
        have tpC : Al (Tup C1) rs (wordsF z) := tp.mono fun _ _ r => r.same del_sub
        refine ⟨_, rfl, p, .list ((wordsF z).map wd), rfl, .lst (.inl (.inl hp)) (words_dq tpC), k1, k2, k3, ?_⟩
        refine ⟨_, rfl, z, rfl, by omega, fun pc C2 WC => ?_⟩
        obtain ⟨npc, spc, rsc, hpc, tpc⟩ := WC
        have tpC2 : Al (Tup C2) rsc (wordsF z) := tpc.mono fun _ _ r => r.same del_sub
        have sC12 : Same C1 C2 := Same.trans spc del_sub
        refine ⟨pc, .list ((wordsF z).map wd), rfl, .lst (.inl (.inl hpc)) (words_dq tpC2), k1, k2, k3, rfl, _, rfl, ?_⟩
        rw [decide_eq_true rfl]
        refine iteF ?_
        have D6 := D5.same sC12
        have hp2 := sC12 _ _ hp
        have tp2 : Al (Tup C2) rs (wordsF z) := tpC.mono fun _ _ r => r.same sC12
        refine ⟨_, rfl, d, aw, ac, _, rfl, D6, by omega, fun C3 K3 D7 => ⟨_, rfl, iteF ?_⟩⟩
        have hp3 := K3 _ _ hp2 p1 p2
        have tp3 : Al (Tup C3) rs (wordsF z) := tp2.mono fun r d_ h => K3 _ _ h (D6.ned h (fun _ e => by cases e)) (D6.neT h (fun _ e => by cases e))
        clear tpc tpC2 tpC tp sp_ spc hpc npc hp2 tp2 sC12 sBC D5 D6 K3 hp c4
        refine ⟨_, rfl, .inl ⟨rfl, _, .inl (.inl hp3)⟩, by show 3 ≤ sizeLine; decide, fun t ht => ?_⟩
        have npt : p ≠ t := ne_of_none hp3 ht
        refine ⟨p, _, .ref t, rfl, rfl, Same.new ht _ _ hp3, ?_, ?_⟩
        · rw [List.length_map, tp3.length]
          exact Nat.lt_of_le_of_lt (Nat.le_trans (words_len z) zlen) (by decide)
        have ntd : t ≠ d := (draw_fresh D7 ht).1
        have nta : t ≠ aw := (draw_fresh D7 ht).2
        have ntc := draw_fresh_ac D7 ht
        have D8 := draw_upd (o := .lst (rs.map V.ref ++ [V.ref t])) (draw_upd (o := .tup [V.str "a", .int 1, .int 1]) D7 ntd nta ntc) p1 p2 npc'
        have hp4 : upd (upd C3 t (.tup [V.str "a", .int 1, .int 1])) p (.lst (rs.map V.ref ++ [V.ref t])) p = some (.lst (rs.map V.ref ++ [V.ref t])) := upd_same
        have tp4 : Al (Tup (upd (upd C3 t (.tup [V.str "a", .int 1, .int 1])) p (.lst (rs.map V.ref ++ [V.ref t])))) rs (wordsF z) := tp3.mono fun r d_ h => by
          have nrp : r ≠ p := ne_of h hp3 (fun e => by cases e)
          show upd _ p _ r = _
          rw [upd_ne nrp]
          exact Same.new ht _ _ h
        generalize upd (upd C3 t (.tup [V.str "a", .int 1, .int 1])) p (.lst (rs.map V.ref ++ [V.ref t])) = C4 at *
        clear hp3 tp3 ht D7
        refine ⟨_, rfl, rfl, rfl, .str z, rfl, .inl ⟨z, rfl, by omega, zT, fun p5 C5 WA => ?_⟩⟩
        obtain ⟨np5, sp5, rs5, hp5, tp5⟩ := WA
        have sC45 : Same C4 C5 := Same.trans sp5 del_sub
        have tpC5 : Al (Tup C5) rs5 (wordsF z) := tp5.mono fun _ _ r => r.same del_sub
        have D9 := D8.same sC45
        refine ⟨_, rfl, _, rfl, _, rfl, p, _, rfl, .inl (.inl (sC45 _ _ hp4)), fun o hno => ?_⟩
        rw [cut_last]
        have sC6 := Same.new (o := .lst (rs.map V.ref)) hno
        have tpo : Al (Tup (upd C5 o (.lst (rs.map V.ref)))) rs (wordsF z) := tp4.mono fun _ _ r => r.same (Same.trans sC45 sC6)
        have tp5o : Al (Tup (upd C5 o (.lst (rs.map V.ref)))) rs5 (wordsF z) := tpC5.mono fun _ _ r => r.same sC6
        refine ⟨.list ((wordsF z).map wd), .list ((wordsF z).map wd), .lst (.inl (.inl (sC6 _ _ hp5))) (words_dp tp5o), .lst (.inl (.inl upd_same)) (words_dp tpo), wsh, wsh, _, rfl, ?_⟩
        rw [words_eqv ch]
        refine iteF ?_
        have D10 := D9.same sC6
        generalize upd C5 o (.lst (rs.map V.ref)) = C6 at *
        clear tpo tp5o sC6 hno D9 sC45 tpC5 tp5 hp5 sp5 np5 tp4 hp4 D8
        refine ⟨_, rfl, _, rfl, by show 1 ≤ sizeLine; decide, fun t1 ht1 => ⟨_, rfl, by show 1 ≤ sizeLine; decide, fun t2 ht2 => fun t3 ht3 => ⟨_, rfl, z, "\t", rfl, rfl, by show z.length + 1 ≤ sizeLine; exact Nat.le_trans (Nat.succ_le_succ zlen) (by decide), ?_⟩⟩⟩
        refine ⟨_, rfl, "\t", z, rfl, rfl, by show 1 + z.length ≤ sizeLine; exact Nat.le_trans (Nat.add_le_add_left zlen 1) (by decide), ?_⟩
        refine ⟨by show 2 ≤ sizeLine; decide, fun t4 ht4 => ⟨by show 10 ≤ sizeLine; decide, fun o1 ho1 => ?_⟩⟩
        have e1 := Same.new (o := .lst [V.str z]) ht1
        have g1 : upd C6 t1 (.lst [V.str z]) t1 = some (.lst [V.str z]) := upd_same
        obtain ⟨f1, f1'⟩ := draw_fresh D10 ht1
        have D11 := D10.same e1
        generalize upd C6 t1 (.lst [V.str z]) = A1' at *
        have e2 := Same.new (o := .tup [V.str z]) ht2
        have g2 : upd A1' t2 (.tup [V.str z]) t2 = some (.tup [V.str z]) := upd_same
        obtain ⟨f2, f2'⟩ := draw_fresh D11 ht2
        have D12 := D11.same e2
        generalize upd A1' t2 (.tup [V.str z]) = A2' at *
        have e3 := Same.new (o := .dK []) ht3
        have g3 : upd A2' t3 (.dK []) t3 = some (.dK []) := upd_same
        obtain ⟨f3, f3'⟩ := draw_fresh D12 ht3
        have D13 := D12.same e3
        generalize upd A2' t3 (.dK []) = A3' at *
        have e4 := Same.new (o := .lst [V.str "a", .str "b"]) ht4
        have g4 : upd A3' t4 (.lst [V.str "a", .str "b"]) t4 = some (.lst [V.str "a", .str "b"]) := upd_same
        obtain ⟨f4, f4'⟩ := draw_fresh D13 ht4
        have D14 := D13.same e4
        generalize upd A3' t4 (.lst [V.str "a", .str "b"]) = A4' at *
        obtain ⟨f5, f5'⟩ := draw_fresh D14 ho1
        obtain ⟨xs, hxs⟩ : ∃ xs : List V, xs = [.non, .int 5, .bl true, .ref t1, .ref t2, .ref t3, .str (z ++ "\t"), .str ("\t" ++ z), .ref t4, .int 0] := ⟨_, rfl⟩
        have e5 := Same.new (o := .lst xs) ho1
        have D15 := D14.same e5
        have g5 : upd A4' o1 (.lst xs) o1 = some (.lst xs) := upd_same
        rw [hxs] at e5 g5 D15
        generalize upd A4' o1 (.lst [.non, .int 5, .bl true, .ref t1, .ref t2, .ref t3, .str (z ++ "\t"), .str ("\t" ++ z), .ref t4, .int 0]) = A5' at *
        have bads : ∀ H', Keep d aw A5' H' → ∀ x ∈ xs, Bad K H' x := by
          rw [hxs]
          intro H' kp x hx
          simp only [List.mem_cons, List.not_mem_nil, or_false] at hx
          rcases hx with rfl | rfl | rfl | rfl | rfl | rfl | rfl | rfl | rfl | rfl
          · exact .inr ⟨_, .base .non, by decide +kernel⟩
          · exact .inr ⟨_, .base (.int _), by decide +kernel⟩
          · exact .inr ⟨_, .base (.bl _), by decide +kernel⟩
          · exact .inr ⟨_, .base (.lst (kp _ _ (Same.trans e2 (Same.trans e3 (Same.trans e4 e5)) _ _ g1) f1 f1')), by decide +kernel⟩
          · exact .inr ⟨_, .base (.tup (kp _ _ (Same.trans e3 (Same.trans e4 e5) _ _ g2) f2 f2')), by decide +kernel⟩
          · exact .inr ⟨_, .base (.dK (kp _ _ (Same.trans e4 e5 _ _ g3) f3 f3')), by decide +kernel⟩
          · exact .inl (bad_text (by show z.length + 1 ≤ _; omega) (.inr (by decide)))
          · exact .inl (bad_text (by show 1 + z.length ≤ _; omega) (.inl (by decide)))
          · exact .inr ⟨_, .base (.lst (kp _ _ (e5 _ _ g4) f4 f4')), by decide +kernel⟩
          · exact .inr ⟨_, .base (.int _), by decide +kernel⟩
        rw [← hxs] at g5
        clear e1 e2 e3 e4 e5 g1 g2 g3 g4 ht1 ht2 ht3 ht4 D10 D11 D12 D13 D14 ho1 f1 f1' f2 f2' f3 f3' f4 f4'
        refine ⟨d, aw, ac, o1, _, xs, rfl, D15, by omega, .inl (.inl g5), f5', f5, by rw [hxs]; show 0 < 10; decide, by rw [hxs]; show 10 ≤ 1000000; decide, fun i6 x6' H7 hx6 K7 D16 => ?_⟩
        have bad := bads H7 K7 x6' (List.mem_of_getElem? hx6)
        clear bads hx6 K7 D15 g5
        obtain ⟨XC, XF⟩ := T.sup_xf pk.file 0 (d := d_BadText) rfl
        have XX := ExcC.xf XC
        have exm : PySem.W.exmOne K (.ref (ga K "BadText")) (.ref (ga K "PageError")) = some true := exm_ok (x := "BadText") (y := "PageError") (b := true) (ba (ba (ba T.chk).2).2).2
        refine ⟨_, rfl, x6', rfl, .inr ⟨?_, fun dx H8 n8 s8 e8 => ⟨true, exm, fun _ ea hea => ⟨_, rfl, fun hna => ?_⟩, fun z => nomatch z⟩⟩⟩
        · exact bad
        have D17 := (D16.same s8).same (Same.new (o := ErV (.ref (ga K "BadText")) (some dx) ea) hna)
        have ndx : dx ≠ ea := ne_of_none e8 hna
        have h1 : upd H8 ea (ErV (.ref (ga K "BadText")) (some dx) ea) ea = some (ErV (.ref (ga K "BadText")) (some dx) ea) := upd_same
        have h2 : upd H8 ea (ErV (.ref (ga K "BadText")) (some dx) ea) dx = some (.xd [("wanted", .non), ("column", .non), ("line", .non)]) := by rw [upd_ne ndx]; exact e8
        generalize upd H8 ea (ErV (.ref (ga K "BadText")) (some dx) ea) = H9 at *
        have self1 : PySem.W.kitOne K (.ref (ga K "BadText")) (.ref (ga K "BadText")) = some true := by
          unfold PySem.W.kitOne
          rw [if_pos (beq_self_eq_true _)]
        refine ⟨_, rfl, ea, ga K "BadText", _, .ref (ga K "BadText"), true, rfl, .told h1 h2, XC, fun u hu => hu, self1, _, rfl, ?_⟩
        refine iteF ?_
        refine ⟨_, rfl, ea, ga K "BadText", dx, _, .non, rfl, h1, h2, XX, XF "line" (by decide +kernel), rfl, _, rfl, ea, ga K "BadText", dx, _, .non, rfl, h1, h2, XX, XF "column" (by decide +kernel), rfl,
          _, rfl, ea, ga K "BadText", dx, _, .non, rfl, h1, h2, XX, XF "wanted" (by decide +kernel), rfl, by show 3 ≤ sizeLine; decide, fun t5 ht5 => ⟨by show 3 ≤ sizeLine; decide, fun t6 ht6 => ?_⟩⟩
        have n56 : t5 ≠ t6 := ne_of_none upd_same ht6
        have tn : ∀ {H' : Hp} {t : Addr}, H' t = some (.tup [V.non, .non, .non]) → Dp K H' (.ref t) (.tuple [.none, .none, .none]) := fun h => .tup (.inl (.inl h)) (.cons .non (.cons .non (.cons .non .nil)))
        refine ⟨_, _, tn (by rw [upd_ne n56]; exact upd_same), tn upd_same, by decide +kernel, by decide +kernel, _, rfl, ?_⟩
        refine iteF ?_
        refine ⟨_, _, _, _, _, _, _, rfl, (D17.same (Same.trans (Same.new ht5) (Same.new ht6))).mono ?_⟩
        push_cast
        omega
    · rintro σ A0 ⟨x2, x3, x4, x5, x6, x7, x8, rfl, DA⟩
      exact k _
end
end K00

set_option maxHeartbeats 4000000
namespace K00
open PySem PySem.Spec PyProof.Rows L2 He Sa
theorem facts {P : Program} {w : World} {h : Heap} {mg : Str → Option Value} {f : Addr} (p : Pok P) (G : h.Ns mainGlobals mg) (hfa : mg ("law" : Str) = some (.ref f)) (Y : (hookS 4 sx).says w h) :
    ∃ (K : PySem.W.Frag) (fd : FuncData) (sp : Sp), K.In h ∧ (∀ (s : Shared) (u : Value), BindsTo s fd ⟨[u], []⟩ [(("_law_script" : Str), u)]) ∧
      (∀ (H : Hp) (a : Addr) (ns : List Int), ns.length ≤ 63 → Only H → SqL K H a (ns.map V.int) → sp [.ref a] H (fun v _ => v = .bl true) fun _ _ _ => False) ∧
      ∀ base : Heap, K.In base → base.Ns mainGlobals mg → FnG P w K mg base (L2.CX P w) 7 f fd ["_law_script"] sp := by
  obtain ⟨K, X, c1⟩ := Y
  have T : Tx sx K mg := ⟨⟨h, X, G⟩, c1⟩
  have e := hfa.symm.trans (T.glo "law")
  cases e
  obtain ⟨fd0, F0⟩ := T.def_ 14 (x := "law") (st := slaw) rfl
  have b := FunD.bindsA (ps := ["_law_script"]) F0 fun _ _ _ _ _ _ us hl => match us, hl with | [_], _ => rfl
  refine ⟨K, fd0, spLaw K, X, fun s v => b s [v] rfl, fun H a ns hl _ hS => ⟨a, ns, rfl, hS, hl, fun _ => rfl⟩, fun base _ _ => ?_⟩
  exact law_G (base := base) T p F0
end K00
open PySem PySem.W PySem.Calls PyProof.Rows
theorem PySem.Challenge.cw_saidandasked_k00_names_and_words_holds : PySem.Challenge.rw_saidandasked_k00_names_and_words.Holds := by
  w_on; o_law
  refine HandSHeadRun.head_any (r := K00.R) (q := view K00.R.prog [K00.lawAt]) (H := Sa.hookS 4 K00.sx) (ob := Sa.obS 4 K00.sx) (M := 20000) (loose := K00.loose) (d := HandSHeadRun.topDef K00.R.prog 22) (kwd := []) (Sa.obS_eq 4 K00.sx)
    (by kernel_rfl) (fun s => by kernel_rfl) K00.run (by kernel_rfl) (by kernel_rfl) (by kernel_rfl) (by rfl) (by first | assumption | decide +kernel) (by decide +kernel) ⟨rfl, rfl, rfl, rfl, rfl, by decide +kernel⟩ ?hw ?hc
  case hw => w_witness2
  case hc =>
    refine Sa.walk_ofG (l := PySem.Challenge.rw_saidandasked_k00_names_and_words) (n := 63) (k := 7) (x := "_law_script") (CX := L2.CX (PySem.Challenge.rw_saidandasked_k00_names_and_words).prog) rfl (by decide) (by kernel_rfl) ⟨rfl, by decide, by decide⟩ ?F (fun _ _ _ _ _ z => by
      obtain ⟨_, _, _, _, _, _, _, _, _, _, _, _, z⟩ := z
      exact z)
    intro w mg fa h Y G hmg0
    have hmg : mg ("law" : PySem.Str) = some (.ref fa) := by
      have e : (HandSHeadRun.topDef K00.R.prog 22).name = ("law" : PySem.Str) := by kernel_rfl
      rw [← e]
      exact hmg0
    exact K00.facts (P := (PySem.Challenge.rw_saidandasked_k00_names_and_words).prog) ⟨by kernel_rfl, by kernel_rfl⟩ G hmg Y
