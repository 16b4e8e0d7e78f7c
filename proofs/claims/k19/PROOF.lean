import PyProof.Rows.All
import Wide.All
import OpenK.AllK
import Wide.FinOn
import KE.KExcSuper
import KE.RegKSuper
import KE.KExcIs
import HandS.ForMost
import HandS.Exc
import HandS.ExcOwn
import HandS.ExcInit
import HandS.ExcValue
import HandS.ExcIs
import HandS.ExcField
import HandS.ExcSuper
import HandS.Nested
import HandS.Defaults
import HandS.HeadEnd
import HandS.More
import HandS.WordsExc
import HandS.Head0
import HandS.Head1
import HandS.Head2
import HandS.HeadHook1
import HandS.HeadHook2
import HandS.HeadHook4
import HandS.NestedK
import HandS.IsInst
import HandS.Text
import KE.GoesMore
import HandS.Iter
import HandS.Walk
import HandS.Lambda
import HandS.TupAny
import HandS.Deep
import HandS.TupLe
import KE.KIndexOf
import HandS.Zip
import HandS.Style
import HandS.Strs
import HandS.SetBool
import HandS.SetKeys
import KE.GoesEnum
import PyProof.AutoSeq1
import HandS.RaiseMore
import PyProof.ReprLoop
import PyProof.StrLawsRepr
import HandS.EndTab
import HandS.HeadWalk
import PySem.Challenge.RW_saidandasked_k19_programs_answer_words
set_option Elab.async false
set_option linter.all false
set_option maxRecDepth 100000
set_option maxHeartbeats 4000000
/-! An own error whose __init__ begins by super().__init__('..') and then stores fields: its __init__ as a def of the layer. -/
namespace Sa
open PySem PySem.Spec PyProof.Rows L2 NdefX
section
variable {prog : Program} {w : World} {A : Around} {E : Value → Shared → Prop} {h : Heap} {g : Array GenState} {d : Drawn} {t : Nat} {os : OsState}
variable {nm q : Str} {C N : Addr} {bs bm : List Value} {hdct : Bool} {sn : List Str} {sub : List Value} {ab : Bool} {col : Option Bool} {dd : Option Addr} {k0 k1 k2 k3 k5 : Option Value}
/-- the bound ValueError.__init__ is called -/
theorem sup_call {u e t0 : Addr} {rest : List Value} {Q : Value → Shared → Prop}
    (hC : h.get? C = some (excClassObj nm q C N bs bm hdct sn sub ab col dd k0 k1 k2 k3 k5 "ValueError.__new__")) (he : h.get? e = some (HandSPX.excO C t0)) (hu : h.get? u = some (PySem.W.kxs_mw "ValueError.__init__" e)) (hrest : rest.length ≤ sizeLine)
    (hq : ∀ h' t1, (∀ b o, b ≠ e → h.get? b = some o → h'.get? b = some o) → h'.get? e = some (HandSPX.excO C t1) → Q .none ⟨h', g, d, t, os⟩) :
    wpAny (model prog w) A (call (.ref u) rest) Q E ⟨h, g, d, t, os⟩ := by
  refine wpAny_call (codeAny_of_tree ?_)
  show wpAny _ A.in1 (callAny (.ref u) ⟨rest, []⟩) _ _ _
  simp only [callAny]
  refine wpAny_bind (wpAny_load hu ?_)
  simp only [PySem.W.kxs_mw, show (Value.type "method-wrapper" == Value.type "method" || Value.type "method-wrapper" == Value.type "builtin_function_or_method" || Value.type "method-wrapper" == Value.type "method-wrapper") = true by decide, if_true]
  refine PySem.W.KFB.if_so (by decide) ?_
  refine wpAny_bind (PySem.ESX.check_bound F.excBase_ValueError hC he rfl ?_)
  refine wpAny_bind (wpAny_pure (wpAny_pure ?_))
  refine ⟨Code.quiet_builtin _ (by decide +kernel), codeAny_builtin F.excBase_ValueError.initEntry ?_⟩
  rw [Around.under_plainId F.excBase_ValueError.init.plain _]
  wp_walk
  refine hq _ h.objs.size (fun b o hb ho => ?_) ?_
  · rw [Heap.get?_update_other _ _ (Ne.symm hb)]
    exact Heap.get?_push_of_some _ ho
  · rw [Heap.get?_update_self _ (Heap.get?_push_of_some _ he) rfl]
    rfl
end
end Sa

set_option maxHeartbeats 4000000
namespace Sa
open PySem PySem.Spec PyProof.Rows L2 NdefX
/-- what the written part says of such a class C and its __init__ at f, the words F -/
structure SupK (P : Program) (K : PySem.W.Frag) (C : Addr) (F : NF) (f : Addr) (fd : FuncData) : Prop where
  oex : OexC K C
  iC : PySem.W.findIn K (.ref C) "__init__" = some (some (.ref f))
  tI : PySem.W.typeIn K (.ref f) = some (.type "function")
  lk : ∃ (oc : Value) (od : Option Addr) (doc pm ctv : Value) (an : Option Addr) (osl : Array (Option Value)), fd = PySem.W.fnX F.name F.qual F.params F.body F.scope F.cl .none .none doc pm an (.ref F.c) ctv ∧ K.lookup f = some ⟨oc, od, .func fd, osl⟩
  cd : PySem.W.codeIn K (.ref F.c) F.qual = true
  file : ∃ (ccl : Value) (cdd : Option Addr) (vs : Array Value) (ccs : Array (Option Value)) (file : Str) (tf : Tok), K.lookup F.c = some ⟨ccl, cdd, .fields vs, ccs⟩ ∧ vs[2]? = some (.str file tf) ∧ ((P.main.file : Str) == file) = true
  cell : ∃ (cc : Addr) (a : Value) (b : Option Addr) (c : Array (Option Value)), F.cl = [(("__class__" : Str), cc)] ∧ K.lookup cc = some ⟨a, b, .cell (some (.ref C)), c⟩
  sup : PySem.W.ks_superIn K C C "__init__" = some (some (.builtin "ValueError.__init__"))
  subVE : PySem.W.subIn K (.ref C) (.type "ValueError") = some true
  self : PySem.W.mroIn K C (.ref C) = some true
  third : PySem.W.nsIn K cStatics "thirdparty.any" = some none
section
variable {P : Program} {w : World} {K : PySem.W.Frag} {mg : Str → Option Value} {base : Heap} {CX : CXT} {N ps : List Str} {F : NF} {fd : FuncData} {f C : Addr} {k : Nat} {sp : Sp}
theorem cellsAt_one {cc : Addr} {h : Heap} {H : Hp} (e : F.cl = [(("__class__" : Str), cc)]) (hc : h.IsCell cc (some (.ref C))) (hn : H cc = none) : CellsAt F.cl ["__class__"] [some (.ref C)] h H := by
  have look : ∀ y c, F.cl.lookup y = some c → y = "__class__" ∧ c = cc := fun y c hl => by
    rw [e] at hl
    have hm := PySem.mem_of_lookup hl
    have hm2 := List.mem_singleton.mp hm
    exact ⟨congrArg Prod.fst hm2, congrArg Prod.snd hm2⟩
  refine ⟨rfl, fun y c hl => ?_, fun x y c hx hy => ?_, fun i y hi => ?_⟩
  · obtain ⟨_, rfl⟩ := look y c hl
    exact ⟨hn, _, hc⟩
  · rw [(look x c hx).1, (look y c hy).1]
  · cases i with
    | zero =>
      have ey : ("__class__" : Str) = y := Option.some.inj hi
      subst ey
      refine ⟨cc, by rw [e]; simp, fun v hv => ?_⟩
      have ev : some (V.ref C) = some v := Option.some.inj hv
      cases ev
      exact ⟨.ref C, rfl, hc⟩
    | succ i => simp at hi
/-- THE RULE: its __init__ by the rest of its body -/
theorem fn_super (S : NScope N ps ["__class__"] F.scope) (T : SupK P K C F f fd) (hs : mg "super" = none)
    (hks : F.scope.names.lookup ("super" : Str) = some .globalImplicit) (htop : (P.main.scope.names.lookup ("super" : Str)).isSome = false)
    {ar : Arg} (har : (F.params.posonlyargs ++ F.params.args).head? = some ar) (har2 : ps[0]? = some ar.arg) (len : ∀ vs H Q E, sp vs H Q E → vs.length = ps.length)
    {p0 p1 p2 p3 p4 p5 : Pos} {m : Str} {j : Nat} {rest : List Stmt} (hbody : F.body = .Expr (.Call (.Attribute (.Call (.Name "super" p0) [] [] p1) "__init__" p2) [.Constant (.str m) j p3] [] p4) p5 :: rest)
    (he : ∀ L : Addr, ∃ pl : Sem Bool, eval (.Call (.Attribute (.Call (.Name "super" p0) [] [] p1) "__init__" p2) [.Constant (.str m) j p3] [] p4) (envF F f L) = (do
      let ov ← attributeBase (.Call (.Name "super" p0) [] [] p1) "__init__" (envF F f L) (eval (.Call (.Name "super" p0) [] [] p1) (envF F f L))
      standAt p2.atName
      let (fx, first) ← holding [ov] (getMethod ov "__init__" pl)
      callWith p4 fx first (backTo p4 (starEach [.Constant (.str m) j p3] (envF F f L))) []))
    (hi : ∀ L : Addr, interactive (envF F f L) = false) (hsw : ∀ L : Addr, swapsWith (.Call (.Attribute (.Call (.Name "super" p0) [] [] p1) "__init__" p2) [.Constant (.str m) j p3] [] p4) none p5.line (envF F f L) = pure false)
    (hself : ∀ vs H Q E, sp vs H Q E → ∃ a ys, vs = V.ref a :: ys ∧ H a = some (exo a C none))
    (hrest : ∀ (A : Around) (outer : List Env) (s : Shared) (H : Hp) (vs : List V) (Q : VK) (E : XK), Room k (A.deeper (envF F f s.heap.objs.size)) → sp vs H Q E →
      ∃ t, PSs (ncx CX P w K mg base N F f A outer s H E) rest t ∧ t { nx := fun _ H' => Q .non H', rt := Q } (startF N vs [some (.ref C)]) H) :
    FnOk P w K mg base CX (k + 1) f fd ps sp := by
  refine ⟨len, fun A outer s H args us vs Q E hr e0 hb r hsp => ?_⟩
  obtain ⟨oc, od, doc, pm, ctv, an, osl, rfl, lk⟩ := T.lk
  have hl := len _ _ _ _ hsp
  have KX : K.In s.heap := e0.mod.kin.keeps fun b o e => (e0.bs b o e).1
  have lim : s.heap.NoLimit := e0.mod.nolimit.keeps fun b o e => (e0.bs b o e).1
  obtain ⟨cc, ca, cb, csl, hcl, hcell⟩ := T.cell
  have hcn : H cc = none := (e0.bs cc _ (e0.mod.kin _ _ hcell)).2
  have hC : CellsAt F.cl ["__class__"] [some (.ref C)] s.heap H := cellsAt_one hcl ⟨_, KX _ _ hcell, rfl⟩ hcn
  refine PySem.ks_codeAny_call_defAt (body := F.body) (binds := ps.zip us) hr.depth (KX _ _ lk) rfl lim (PySem.W.codeRec_of KX T.cd) rfl hb S.nocell (fun y hy => S.par _ (List.of_mem_zip hy).1) (fun h₁ hns kp => ?_) S.co S.gen S.kind
  have I : Inv (ncx CX P w K mg base N F f A outer s H E) [] (startF N vs [some (.ref C)]) H { s with heap := h₁, toks := s.toks + (ps.zip us).length } := inv_startN S hr.hd e0 hl r hC hns kp
  obtain ⟨t, ht, hq⟩ := hrest A outer s H vs Q E (hr.deeper _) hsp
  obtain ⟨a, ys, rfl, ea⟩ := hself _ _ _ _ hsp
  have tail : ∀ s', Inv (ncx CX P w K mg base N F f A outer s H E) [] (startF N (.ref a :: ys) [some (.ref C)]) H s' → wpAny (model P w) (A.deeper (envF F f s.heap.objs.size)) (execs rest (envF F f s.heap.objs.size))
      (fun fl s' => CR CX outer P w H s Q E (.ok (.ret (match fl with | .ret v => v | _ => .none))) s') (ncx CX P w K mg base N F f A outer s H E).xe s' := fun s' J => by
    refine wpAny_mono (ht.run [] s' _ H _ J hq) (fun fl s2 hs2 => ?_) fun e s2 hs2 => hs2
    have fin : ∀ {σ' : L2.St} {H' : Hp} {v : V} {u : Value}, Inv (ncx CX P w K mg base N F f A outer s H E) [] σ' H' s2 → L2.RelV v u → Q v H' → CE outer P w H s Q u s2 :=
      fun {σ' H' v u} J rv q => ⟨v, H', J.os, J.bare, J.base, J.hok, rv, q⟩
    cases fl with
    | ret u =>
      obtain ⟨v, σ', H', J, rv, q⟩ := hs2
      exact fin J rv q
    | next =>
      obtain ⟨σ', H', J, q⟩ := hs2
      exact fin (v := V.non) (u := Value.none) J rfl q
    | brk =>
      obtain ⟨_, _, _, q⟩ := hs2
      exact False.elim q
    | cont =>
      obtain ⟨_, _, _, q⟩ := hs2
      exact False.elim q
  have hkc : F.scope.names.lookup ("__class__" : Str) = some .free := S.frk _ (List.mem_singleton.mpr rfl)
  have hka : F.scope.names.lookup ar.arg = some .local := S.par _ (List.mem_of_getElem? har2)
  have hpl : ps.length + 1 ≤ N.length := by
    have q := congrArg List.length S.pre
    rw [List.length_take, List.length_append] at q
    have q2 : (["__class__"] : List Str).length = 1 := rfl
    omega
  have ndP : ps.Nodup := by
    have q := S.nd.sublist (List.take_sublist (ps.length + (["__class__"] : List Str).length) N)
    rw [S.pre] at q
    exact (List.nodup_append.mp q).1
  obtain ⟨ua, us', rfl, rfl⟩ : ∃ ua us', us = ua :: us' ∧ ua = Value.ref a := by
    cases r with
    | cons r0 r1 => exact ⟨_, _, rfl, r0⟩
  have hv : (ps.zip (Value.ref a :: us')).reverse.lookup ar.arg = some (Value.ref a) := zip_look (i := 0) ndP har2 rfl
  obtain ⟨ccl, cdd, fvs, ccs, file, tf, hcode, hvs, hfile⟩ := T.file
  have kin1 : K.In h₁ := fun b o e => kp b o (KX b o e)
  obtain ⟨nmC, qC, NC, bsC, bmC, snC, subC, abC, colC, ddC, k0, k1, k2, k3, k5, hCl, hbm⟩ := T.oex.cls
  have hcls : PySem.W.clsIn K C = some { name := nmC, bases := bsC, mro := .ref C :: bmC, ns := NC, qualname := qC, hasDict := true, slotNames := snC, subclasses := subC, abstract := abC, collection := colC, hasDel := false } := by unfold PySem.W.clsIn; rw [hCl] <;> rfl
  obtain ⟨t1, ho⟩ := exo_at I.hok ea
  obtain ⟨mb, hb1, hb2⟩ := e0.mod.blt
  have gN : h₁.Ns mainGlobals mg := e0.mod.glob.keeps I.bk
  have eb : execs F.body (envF F f s.heap.objs.size) = execs (.Expr (.Call (.Attribute (.Call (.Name "super" p0) [] [] p1) "__init__" p2) [.Constant (.str m) j p3] [] p4) p5 :: rest) (envF F f s.heap.objs.size) := by rw [hbody]
  show PySem.wpAt (model P w) (A.deeper (envF F f s.heap.objs.size)) (.func F.body (envF F f s.heap.objs.size)) (execs F.body (envF F f s.heap.objs.size)) _ _ _
  rw [eb]
  obtain ⟨pl, hev⟩ := he s.heap.objs.size
  refine PySem.ks_wpAt_execs_cons (PySem.ks_wpAt_Expr_any (PySem.ks_wpAt_MethodCall (pl := pl) ?_ hev) (hi _) (hsw _))
  refine PySem.ks_wpAt_super_base (env := envF F f s.heap.objs.size) hks hkc (by decide) rfl (kin1 _ _ lk) rfl har rfl (kin1 _ _ hcode) rfl hvs hfile htop ?_
  refine PySem.W.ks_loadName_global S.kind hks (Calls.loadGlobal_builtin (env := envF F f s.heap.objs.size) gN hs (hb1.keeps I.bk) ((hb2 _ (by decide)).trans PyProof.Rows.Boot.«super») ⟨rfl, ?_⟩)
  refine wpAny_loadName_free S.kind hkc (show F.cl.lookup ("__class__" : Str) = some cc by rw [hcl]; simp) ⟨_, kin1 _ _ hcell, rfl⟩ ?_
  refine wpAny_loadName_local S.kind hka hns hv ?_
  refine PySem.ks_wpAny_isType_cls (kin1 _ _ hCl) rfl ⟨rfl, ?_⟩
  refine PySem.ks_wpAny_call_super (kin1 _ _ hCl) rfl ho rfl (fun c z => nomatch z) (PySem.W.looks_mroIn kin1 T.self) (fun h2 e2 k2 => ?_)
  have I2 := I.kept (t' := s.toks + (ps.zip (Value.ref a :: us')).length) k2
  have kin2 : K.In h2 := fun b o e => k2 b o (kin1 b o e)
  obtain ⟨t2, ho2⟩ := exo_at I2.hok ea
  have J2 : PySem.W.InstAt h2 a { cls := .ref C, dict := none, data := .fields #[.ref t2, .none, .none, .none, .bool false, .none] } C none := ⟨ho2, rfl, rfl, trivial⟩
  refine PySem.W.kxs_getMethod PySem.W.kxs_ValueError e2 (PySem.W.looks_opaque kin2 T.third) (l₀ := .ref C :: bmC) (fun A Q E s k q => wpAny_bind ((PySem.W.looks_clsIn kin2 hcls) A _ E s k (wpAny_pure q))) rfl kin2 ?_
    (J2.type.andThen (PySem.W.looks_subIn kin2 T.subVE)) (PySem.W.ks_ne kin2 J2 hcls) (by decide) ?_
  · have z := T.sup
    unfold PySem.W.ks_superIn at z
    rw [hcls] at z
    exact z
  have I3 := I2.kept (h' := h2.push (PySem.W.kxs_mw "ValueError.__init__" a)) (t' := s.toks + (ps.zip (Value.ref a :: us')).length + 1) (fun b o e => Heap.get?_push_of_some _ e)
  have hmw : (h2.push (PySem.W.kxs_mw "ValueError.__init__" a)).get? h2.objs.size = some (PySem.W.kxs_mw "ValueError.__init__" a) := Heap.get?_push_size h2 rfl
  obtain ⟨t3, ho3⟩ := exo_at I3.hok ea
  have hargs : starEach [.Constant (.str m) j p3] (envF F f s.heap.objs.size) = (false, eval (.Constant (.str m) j p3) (envF F f s.heap.objs.size)) :: starEach [] (envF F f s.heap.objs.size) := rfl
  rw [hargs]
  refine PySem.W.kxs_callWith (i := "ValueError.__init__") (x := a) rfl (Calls.evalArgs_plain ?_)
  show wpAny _ _ (spliced [(false, eval (.Constant (.str m) j p3) (envF F f s.heap.objs.size))]) _ _ _
  refine Calls.spliced_cons (Calls.Constant_str (pos := p3) (k := j) ?_)
  refine Calls.spliced_nil ⟨hmw, ?_⟩
  show wpAny (model P w) _ (call (.ref h2.objs.size) [_]) _ _ _
  have kin3 : K.In (h2.push (PySem.W.kxs_mw "ValueError.__init__" a)) := fun b o e => Heap.get?_push_of_some _ (kin2 b o e)
  refine sup_call (kin3 _ _ hCl) ho3 hmw (by show 1 ≤ sizeLine; rw [sizeLine_eq]; omega) (fun h' t4 k4 e4 => ?_)
  have I4 := I3.write (h' := h') (t' := s.toks + (ps.zip (Value.ref a :: us')).length + 1 + 1) (x := a) (e := a) (o := exo a C none) (by rw [ea]; exact True.intro) (.inl rfl) k4 ⟨_, e4⟩ (exo_ok e4)
  have eu : upd H a (exo a C none) = H := by
    funext b
    by_cases hb : b = a
    · rw [hb, upd_same, ea]
    · rw [upd_ne hb]
  rw [eu] at I4
  exact wpAt_of_wpAny (tail _ I4)
end
end Sa

set_option maxHeartbeats 4000000
namespace Sa
open PySem PySem.Spec PyProof.Rows L2 NdefX
/-- C(e, ..) as a value: a new error of the class C, then its __init__ -/
def tNewO (C : Addr) (sp : Sp) (ta : TA) : TE := fun σ H Q => ta σ H fun vs H1 => vs.length ≤ 1000 ∧ ∀ a, H1 a = none → sp (.ref a :: vs) (upd H1 a (exo a C none)) (fun v H2 => v = .non ∧ Q (.ref a) H2) (fun _ _ _ => False)
section
variable {X : Cx} {e : Expr} {es : List Expr} {ta : TA} {p pos : Pos}
theorem pe_oex {CX : CXT} {x : Str} {C fI : Addr} {k : Nat} {fd : FuncData} {ps : List Str} {sp : Sp} (T : OexC X.K C) (iC : PySem.W.findIn X.K (.ref C) "__init__" = some (some (.ref fI))) (tI : PySem.W.typeIn X.K (.ref fI) = some (.type "function"))
    (F1 : FnOk X.prog X.w X.K X.mg X.base CX k fI fd ps sp) (hr : Room (k + 1) X.A) (hb : Binds X.K fd ps []) (hx : Passes CX X (fun _ _ _ => False)) (hg : Gl X x) (hm : X.mg x = some (.ref C)) (ha : PA X (e :: es) ta)
    (hdb : (x == ("__debug__" : Str)) = false := by decide) (he : starEach (e :: es) X.env = (false, eval e X.env) :: starEach es X.env := by rfl) (hpl : (backTo pos (starEach es X.env)).any (·.1) = false := by rfl) :
    PE X (.Call (.Name x p) (e :: es) [] pos) (tNewO C sp ta) := by
  refine ⟨fun pins s σ H Q I h => ?_⟩
  obtain ⟨nm, q, N, bs, bm, sn, sub, ab, col, dd, k0, k1, k2, k3, k5, hC, hbm⟩ := T.cls
  refine wpAny_Call_Name_kw (ld_glob I hg hm ?_ hdb)
  refine PySem.W.callWith_K (h₀ := X.base) I.ok.mod.kin T.kC (thn (ha.run pos pins s σ H _ I h) fun us s1 ⟨vs, H1, I1, r1, hz, q1⟩ => ⟨I1.kIn, ?_⟩) he hpl
  show wpAny _ _ (call (.ref C) us) _ _ _
  obtain ⟨hp, g, dr, tk, os⟩ := s1
  have hsz : hp.objs.size ≤ hp.objs.size + 1 := Nat.le_succ _
  have hn : H1 (hp.objs.size + 1) = none := I1.hok.fresh hsz
  have hq := q1 (hp.objs.size + 1) hn
  have kk : ∀ b o, hp.get? b = some o → ((hp.push (PySem.W.kdv_tup us)).push (PySem.HandSPX.excO C hp.objs.size)).get? b = some o := fun b o e => Heap.get?_push_of_some _ (Heap.get?_push_of_some _ e)
  have hget : ((hp.push (PySem.W.kdv_tup us)).push (PySem.HandSPX.excO C hp.objs.size)).get? (hp.objs.size + 1) = some (PySem.HandSPX.excO C hp.objs.size) := by heap_get
  have I2 : Inv X pins σ (upd H1 (hp.objs.size + 1) (exo (hp.objs.size + 1) C none)) ⟨(hp.push (PySem.W.kdv_tup us)).push (PySem.HandSPX.excO C hp.objs.size), g, dr, tk, os⟩ :=
    I1.laid (t' := tk) (a := hp.objs.size + 1) (o := exo (hp.objs.size + 1) C none) (h' := (hp.push (PySem.W.kdv_tup us)).push (PySem.HandSPX.excO C hp.objs.size)) kk hsz (exo_ok hget)
  have r2 : Vals (V.ref (hp.objs.size + 1) :: vs) (Value.ref (hp.objs.size + 1) :: us) := .cons rfl r1
  have hl : (Value.ref (hp.objs.size + 1) :: us).length = ps.length := by
    have e := r2.length
    rw [F1.len _ _ _ _ hq] at e
    exact e.symm
  have hus : us.length ≤ sizeLine := by
    rw [← Paired.length r1, sizeLine_eq]
    omega
  have hb2 := hb ⟨(hp.push (PySem.W.kdv_tup us)).push (PySem.HandSPX.excO C hp.objs.size), g, dr, tk, os⟩ (Value.ref (hp.objs.size + 1) :: us) I2.kIn (by rw [List.append_nil]; exact hl)
  rw [List.append_nil] at hb2
  refine wpAny_call (PySem.HandSPX.call_own F.excBase_ValueError (fun Y => PySem.HandSPX.refsVE_contains Y bm hbm) (I1.kIn _ _ hC) (PySem.W.looks_findIn I1.kIn iC) (fun self => PySem.W.bind_fn I1.kIn self tI) hus
    (codeAny_mono (F1.run _ X.stack _ _ ⟨Value.ref (hp.objs.size + 1) :: us, []⟩ (Value.ref (hp.objs.size + 1) :: us) _ _ (fun _ _ _ => False) (hr.make C us []) (I2.env0.make C us []) hb2 r2 hq) fun r s' hq' => ?_))
  cases r with
  | error er => exact hx pins σ _ _ er s' I2 hq'
  | ok fl =>
    cases fl with
    | ret u =>
      obtain ⟨v, H3, J, rv, ev, q3⟩ := I2.after hq'
      subst ev
      exact ⟨rv, .ref (hp.objs.size + 1), H3, J, rfl, q3⟩
    | next => exact False.elim hq'
    | brk => exact False.elim hq'
    | cont => exact False.elim hq'
end
/-! ### what an error says -/
/-- an error of the class C stands at a, tracked: with no dict that is told, or with the fields fs -/
inductive ErrAt (H : Hp) (a C : Addr) : Prop where
  | plain (h : H a = some (ExO (.ref C) a))
  | full {dx : Addr} {fs : List (Str × V)} (h : H a = some (exo a C (some dx))) (hd : H dx = some (exd dx fs))
section
variable {X : Cx} {pins : List (Addr × Obj)} {σ : L2.St} {H : Hp} {s : Shared} {a C dx : Addr} {fs : List (Str × V)}
theorem ErrAt.inst (I : Inv X pins σ H s) (e : ErrAt H a C) : ∃ ox od, PySem.W.InstAt s.heap a ox C od := by
  cases e with
  | plain h =>
    obtain ⟨⟨oe, vs, he, hz, hd, _⟩, _, _⟩ := I.hok a _ h
    refine ⟨oe, none, he, hz.1, by unfold PySem.W.notCls; rw [hd] <;> rfl, ?_⟩
    rw [hz.2] <;> trivial
  | full h hd =>
    obtain ⟨t1, he⟩ := exo_at I.hok h
    obtain ⟨mA, ⟨od, es, ep, ho, hr⟩, _⟩ := exd_at I.hok hd
    exact ⟨_, some od, he, rfl, rfl, ho⟩
/-- isinstance(x, c), x an error -/
def rIsX (K : PySem.W.Frag) : List V → Hp → VK → Prop := fun xs H Q => ∃ (a C : Addr) (c : V) (cv : Value) (b : Bool), xs = [.ref a, c] ∧ ErrAt H a C ∧ ExcC K C ∧ (∀ u, RelV c u → u = cv) ∧ PySem.W.kitOne K (.ref C) cv = some b ∧ Q (.bl b) H
theorem call_isX : CallR X (.builtin "isinstance") (rIsX X.K) := by
  intro pins s σ H xs us Q I r h
  obtain ⟨a, C, c, cv, b, rfl, ea, T, hcv, e, q⟩ := h
  cases r with
  | cons rx rr =>
    cases rr with
    | cons rt rr =>
      cases rr
      cases rx
      have ec := hcv _ rt
      subst ec
      obtain ⟨ox, od, J⟩ := ea.inst I
      have hcl : (PySem.W.clsIn X.K C).isSome = true := by
        obtain ⟨cd, hc, _⟩ := PySem.W.any_some T.hd
        rw [hc] <;> rfl
      exact PySem.W.kia_one (PySem.W.kitx_exc (ox := ox) (od := od) hcl T.hg T.hk T.hs T.ha T.hn T.ht T.hm) I.kIn J e (fun z => nomatch z) fun tk => ⟨.bl b, H, I.kept (t' := tk) fun _ _ z => z, rfl, q⟩
end
/-- x.f, x an error with its fields told -/
def tXat (K : PySem.W.Frag) (f : Str) (te : TE) : TE := fun σ H Q => te σ H fun x H1 => ∃ (a C dx : Addr) (fs : List (Str × V)) (v : V), x = .ref a ∧ H1 a = some (exo a C (some dx)) ∧ H1 dx = some (exd dx fs) ∧ XfC K C ∧ PySem.W.findIn K (.ref C) f = some none ∧ fs.lookup f = some v ∧ Q v H1
theorem pe_xat {X : Cx} {e : Expr} {te : TE} {pos : Pos} {f : Str} (he : PE X e te) (hb : attributeBase e f X.env (eval e X.env) = eval e X.env := by rfl) : PE X (.Attribute e f pos) (tXat X.K f te) := by
  refine ⟨fun pins s σ H Q I h => ?_⟩
  refine attr_of hb (thn (he.run pins s σ H _ I h) fun u s1 hh => ?_)
  obtain ⟨x, H1, I1, rx, a, C, dx, fs, v, ex, ea, ed, T, hno, l, q⟩ := hh
  subst ex
  obtain rfl : u = Value.ref a := rx
  obtain ⟨t1, ho⟩ := exo_at I1.hok ea
  obtain ⟨mA, hns, hr⟩ := exd_at I1.hok ed
  obtain ⟨od, hod, hl⟩ := lookIn_ns hns
  obtain ⟨u, hu, ru⟩ := RelO.some_of (v := v) (o := mA f) (by rw [← l]; exact hr f)
  have J : PySem.W.InstAt s1.heap a { cls := .ref C, dict := some dx, data := .fields #[.ref t1, .none, .none, .none, .bool false, .none] } C (some od) := ⟨ho, rfl, rfl, hod⟩
  exact HandSPX.exc_get I1.kIn J T.ga T.gg T.exC (PySem.W.findObj_own T.hdC hno rfl (by rw [hl, hu])) (handed_of ru) ⟨v, H1, I1.tok _, ru, q⟩
end Sa

set_option maxHeartbeats 4000000
namespace Sa
open PySem PySem.Spec PyProof.Rows L2
/-! ### repr of data: none, bools, ints, texts, lists, tuples, dicts -/
def keyD : Key → PyData
  | .inl i => .int i
  | .inr x => .str x
/-- a tuple of which it is known that it has no dict of its own: its methods may be called -/
def SqD (K : PySem.W.Frag) (H : Hp) (a : Addr) (xs : List V) : Prop :=
  (∃ o : Obj, H a = some (.frz o (.tup xs)) ∧ o.dict = none) ∨ ∃ (o : Obj) (its : Array Value) (n : Nat), K.lookup a = some o ∧ o.cls = .type "tuple" ∧ o.data = .seq its n ∧ its.size ≤ sizeLine ∧ Vals xs its.toList ∧ o.dict = none
theorem SqD.sq {K : PySem.W.Frag} {H : Hp} {a : Addr} {xs : List V} (h : SqD K H a xs) : SqT K H a xs := by
  rcases h with ⟨o, h, _⟩ | ⟨o, its, n, h1, h2, h3, h4, h5, _⟩
  · exact .inl (.inr ⟨o, h⟩)
  · exact .inr ⟨o, its, n, h1, h2, h3, h4, h5⟩
mutual
inductive Dq (K : PySem.W.Frag) (H : Hp) : V → PyData → Prop
  | non : Dq K H .non .none
  | bl (b : Bool) : Dq K H (.bl b) (.bool b)
  | int (i : Int) : Dq K H (.int i) (.int i)
  | str (x : Str) : Dq K H (.str x) (.str x)
  | lst {a : Addr} {xs : List V} {ds : List PyData} : SqL K H a xs → DqAll K H xs ds → Dq K H (.ref a) (.list ds)
  | tup {a : Addr} {xs : List V} {ds : List PyData} : SqD K H a xs → DqAll K H xs ds → Dq K H (.ref a) (.tuple ds)
  | dct {a : Addr} {kvs : List (Key × V)} {ds : List (PyData × PyData)} : Rd H a (.dK kvs) → DqKv K H kvs ds → Dq K H (.ref a) (.dict ds)
inductive DqAll (K : PySem.W.Frag) (H : Hp) : List V → List PyData → Prop
  | nil : DqAll K H [] []
  | cons {v : V} {vs : List V} {d : PyData} {ds : List PyData} : Dq K H v d → DqAll K H vs ds → DqAll K H (v :: vs) (d :: ds)
inductive DqKv (K : PySem.W.Frag) (H : Hp) : List (Key × V) → List (PyData × PyData) → Prop
  | nil : DqKv K H [] []
  | cons {k : Key} {v : V} {kvs : List (Key × V)} {d : PyData} {ds : List (PyData × PyData)} : Dq K H v d → DqKv K H kvs ds → DqKv K H ((k, v) :: kvs) ((keyD k, d) :: ds)
end
/-- the written part has sys.modules -/
def SysK (K : PySem.W.Frag) : Prop := ∃ o, K.lookup sysModules = some o ∧ o.cls = .type "dict"
theorem key_reads {k : Key} {u : Value} {h : Heap} (e : keyIs k u = true) : Reads h u (keyD k) [] := by
  rcases keyIs_shape e with ⟨i, t, rfl, rfl⟩ | ⟨x, t, rfl, rfl⟩
  · exact Reads.int i t
  · exact Reads.str x t
section
variable {X : Cx} {pins : List (Addr × Obj)} {σ : L2.St} {H : Hp} {s : Shared}
theorem sys_ne (I : Inv X pins σ H s) (S : SysK X.K) {a : Addr} {o : Obj} (ho : s.heap.get? a = some o) (hc : o.cls ≠ .type "dict") : a ≠ sysModules := fun e => by
  obtain ⟨o', h1, h2⟩ := S
  have z := I.kIn _ _ h1
  rw [e, z] at ho
  cases ho
  exact hc h2
mutual
theorem Dq.reads (I : Inv X pins σ H s) (S : SysK X.K) : ∀ (d : PyData) (v : V) (u : Value), Dq X.K H v d → RelV v u → ∃ as, Reads s.heap u d as ∧ sysModules ∉ as
  | .none, _, _, h, r => by
    cases h
    cases r
    exact ⟨_, Reads.none, List.not_mem_nil⟩
  | .bool b, _, _, h, r => by
    cases h
    cases r
    exact ⟨_, Reads.bool b, List.not_mem_nil⟩
  | .int i, _, _, h, r => by
    cases h
    obtain ⟨t, rfl⟩ := r
    exact ⟨_, Reads.int i t, List.not_mem_nil⟩
  | .str x, _, _, h, r => by
    cases h
    obtain ⟨t, rfl⟩ := r
    exact ⟨_, Reads.str x t, List.not_mem_nil⟩
  | .list ds, _, _, h, r => by
    cases h with
    | lst hs ha =>
      cases r
      obtain ⟨its, rv, ⟨o, n, ho, hc, _, hd⟩, _⟩ := I.list hs
      obtain ⟨as, hr, hn⟩ := Dq.readsAll I S ds _ its ha rv
      exact ⟨_, Reads.list ho hc hd hr, fun hm => (List.mem_cons.mp hm).elim (fun e => sys_ne I S ho (by rw [hc]; decide) e.symm) hn⟩
  | .tuple ds, _, _, h, r => by
    cases h with
    | tup hs ha =>
      cases r
      obtain ⟨its, rv, ⟨o, ho, hc, n, hd⟩, _⟩ := I.tuple hs.sq
      obtain ⟨as, hr, hn⟩ := Dq.readsAll I S ds _ its ha rv
      exact ⟨_, Reads.tuple ho hc hd hr, hn⟩
  | .dict ds, _, _, h, r => by
    cases h with
    | @dct a kvs _ hs hk =>
      cases r
      obtain ⟨_, hne, vs, rel, o, es, ep, ho, hx, hd, _, hp, _⟩ := dk_rd I.hok hs
      obtain ⟨as, bs, hr1, hr2, hn1, hn2⟩ := Dq.readsKv I S ds kvs _ _ hk hp rel
      refine ⟨_, Reads.dict ho hx.1 hd hr1 hr2, fun hm => ?_⟩
      rcases List.mem_cons.mp hm with e | hm
      · rw [e] at hne
        simp at hne
      · exact (List.mem_append.mp hm).elim hn1 hn2
theorem Dq.readsAll (I : Inv X pins σ H s) (S : SysK X.K) : ∀ (ds : List PyData) (vs : List V) (us : List Value), DqAll X.K H vs ds → Vals vs us → ∃ as, ReadsAll s.heap us ds as ∧ sysModules ∉ as
  | [], _, _, h, r => by
    cases h
    cases r
    exact ⟨_, ReadsAll.nil, List.not_mem_nil⟩
  | d :: ds, _, _, h, r => by
    cases h with
    | cons h1 h2 =>
      cases r with
      | cons r1 r2 =>
        obtain ⟨as, q1, n1⟩ := Dq.reads I S d _ _ h1 r1
        obtain ⟨bs, q2, n2⟩ := Dq.readsAll I S ds _ _ h2 r2
        exact ⟨_, ReadsAll.cons q1 q2, fun hm => (List.mem_append.mp hm).elim n1 n2⟩
theorem Dq.readsKv (I : Inv X pins σ H s) (S : SysK X.K) : ∀ (ds : List (PyData × PyData)) (kvs : List (Key × V)) (es : List DictEntry) (vs : List (Key × Value)), DqKv X.K H kvs ds → Pairs (mixKind X.prog X.w) es vs → KV kvs vs →
    ∃ as bs, ReadsAll s.heap (es.map (·.key)) (ds.map (·.1)) as ∧ ReadsAll s.heap (es.map (·.val)) (ds.map (·.2)) bs ∧ sysModules ∉ as ∧ sysModules ∉ bs
  | [], _, _, _, h, p, r => by
    cases h
    cases r
    cases p
    exact ⟨_, _, ReadsAll.nil, ReadsAll.nil, List.not_mem_nil, List.not_mem_nil⟩
  | (dk, d) :: ds, _, _, _, h, p, r => by
    cases h with
    | cons h1 h2 =>
      cases r with
      | cons r1 r2 =>
        cases p with
        | cons p1 p2 p3 =>
          obtain ⟨as, bs, q1, q2, n1, n2⟩ := Dq.readsKv I S ds _ _ _ h2 p3 r2
          rename_i k v kvs q vs e es
          have rv : L2.RelV v e.val := by
            rw [p2]
            exact r1.2
          have rk : keyIs k e.key = true := by
            have z : k = q.1 := r1.1
            rw [z]
            exact p1
          obtain ⟨cs, q3, n3⟩ := Dq.reads I S d _ _ h1 rv
          refine ⟨_, _, ReadsAll.cons (key_reads rk) q1, ReadsAll.cons q3 q2, fun hm => (List.mem_append.mp hm).elim (fun z => absurd z List.not_mem_nil) n1, fun hm => (List.mem_append.mp hm).elim n3 n2⟩
end
/-- repr(x), x a list, a tuple, a dict -/
def rRepr (K : PySem.W.Frag) : List V → Hp → VK → Prop := fun xs H Q => ∃ (a : Addr) (d : PyData), xs = [.ref a] ∧ Dq K H (.ref a) d ∧ d.showable = true ∧ d.depth < 60 ∧ d.shown.length ≤ sizeLine ∧ Q (.str d.shown) H
theorem call_reprD (S : SysK X.K) (hg : X.A.guards = some []) (hu : X.A.units + 64 < cLine) : CallR X (.builtin "repr") (rRepr X.K) := by
  intro pins s σ H xs us Q I r h
  obtain ⟨a, d, rfl, hd, h1, h2, h3, q⟩ := h
  cases r with
  | cons rx rr =>
    cases rr
    cases rx
    obtain ⟨as, hr, hn⟩ := Dq.reads I S d _ _ hd rfl
    exact repr_of_reads' hr h1 (fun _ => hn) hg (by omega) (fun _ _ e => e) (fun h' u tk hk => ⟨.str d.shown, H, I.kept (t' := tk) hk, ⟨_, rfl⟩, q⟩) h3
end
end Sa

set_option maxHeartbeats 4000000
/-! Defs that are called where no guard of repr is held: the law itself, and what it calls, may ask repr of data. -/
namespace Sa
open PySem PySem.Spec PyProof.Rows L2
theorem guards_deeper {A : Around} (h : A.guards = some []) (env : Env) : (A.deeper env).guards = some [] := h
/-- a def's promise, kept where no guard is held -/
structure FnG (P : Program) (w : World) (K : PySem.W.Frag) (mg : Str → Option Value) (base : Heap) (CX : CXT) (k : Nat) (f : Addr) (fd : FuncData) (ps : List Str) (sp : Sp) : Prop where
  len : ∀ vs H Q E, sp vs H Q E → vs.length = ps.length
  run : ∀ (A : Around) (outer : List Env) (s : Shared) (H : Hp) (args : Args) (us : List Value) (vs : List V) (Q : VK) (E : XK), A.guards = some [] → Room k A → Env0 P w K mg base A outer s H → BindsTo s fd args (ps.zip us) → Vals vs us → sp vs H Q E →
    codeAny (model P w) A (.call (.ref f) args) (CR CX outer P w H s Q E) s
section
variable {P : Program} {w : World} {K : PySem.W.Frag} {mg : Str → Option Value} {base : Heap} {CX : CXT} {k : Nat} {x qual : Str} {params : Arguments} {body : List Stmt} {scope : Scope} {dvs : List V} {kws : List (Str × V)} {f : Addr} {fd : FuncData} {N ps : List Str} {sp : Sp}
theorem FnG.of (F : FnOk P w K mg base CX k f fd ps sp) : FnG P w K mg base CX k f fd ps sp := ⟨F.len, fun A outer s H args us vs Q E _ hr e0 b r h => F.run A outer s H args us vs Q E hr e0 b r h⟩
theorem funG (F : FunD K x qual params body scope dvs kws f fd) (S : FnScope N ps scope) (len : ∀ vs H Q E, sp vs H Q E → vs.length = ps.length)
    (hbody : ∀ (cdv : Value) (A : Around) (outer : List Env) (s : Shared) (H : Hp) (vs : List V) (Q : VK) (E : XK), A.guards = some [] → Room k (A.deeper (envOfC qual scope s.heap.objs.size f cdv)) → sp vs H Q E →
      ∃ t, PSs (cxOf CX P w K mg base N qual scope f cdv A outer s H E) body t ∧ t { nx := fun _ H' => Q .non H', rt := Q } (start N vs) H) : FnG P w K mg base CX (k + 1) f fd ps sp := by
  obtain ⟨oc, od, dV, kV, doc, pm, an, cdv, ct, osl, rfl, lk, hcd, _, _⟩ := F.ex
  refine ⟨len, fun A outer s H args us vs Q E hg hr e0 hb r hsp => ?_⟩
  have KX : K.In s.heap := e0.mod.kin.keeps fun b o e => (e0.bs b o e).1
  refine codeAny_call_function hr.depth (KX _ _ lk) rfl S.co S.gen rfl (PySem.W.codeRec_of KX hcd) (hb _ _ _ _ ?_)
  refine wpAny_newFunctionEnv_cells S.kind (fun y hy => ?_) fun env he s1 x => ?_
  · rcases S.par y.1 (List.of_mem_zip hy).1 with q | q
    · exact .inl q
    · exact .inr ⟨q, PySem.W.cellsFrom_some _ _ _ (.inl q)⟩
  subst he
  refine ⟨(e0.mod.nolimit.keeps fun b o e => (e0.bs b o e).1).keeps x.toInCall.keep, codeAny_func ?_⟩
  obtain ⟨t, ht, hq⟩ := hbody cdv A outer s H vs Q E hg (hr.deeper _) hsp
  refine wpAny_mono (ht.run [] s1 (start N vs) H _ (inv_start S hr.hd e0 (len _ _ _ _ hsp) r x) hq) (fun fl s' hs => ?_) fun e s' hs => hs
  have fin : ∀ {σ' : L2.St} {H' : Hp} {v : V} {u : Value}, Inv (cxOf CX P w K mg base N qual scope f cdv A outer s H E) [] σ' H' s' → L2.RelV v u → Q v H' → CE outer P w H s Q u s' :=
    fun J rv q => ⟨_, _, J.os, J.bare, J.base, J.hok, rv, q⟩
  cases fl with
  | ret u => exact let ⟨v, σ', H', J, rv, q⟩ := hs; fin J rv q
  | next => exact let ⟨σ', H', J, q⟩ := hs; fin (v := V.non) (u := Value.none) J rfl q
  | brk => exact let ⟨_, _, _, q⟩ := hs; False.elim q
  | cont => exact let ⟨_, _, _, q⟩ := hs; False.elim q
end
/-! ### the law at its call -/
theorem law_callG {P : Program} {w : World} {K : PySem.W.Frag} {mg mb : Str → Option Value} {CX : CXT} {k : Nat} {fa a : Addr} {fd : FuncData} {x : Str} {sp : Sp} {s₁ : Shared} {vs : List Value} {ns : List Int}
    (KX : K.In s₁.heap) (hns : s₁.heap.Ns mainGlobals mg) (hb : s₁.heap.Ns builtinsNs mb) (hbb : ∀ x : Str, x ≠ "__name__" → mb x = bootBuiltins x) (hlim : s₁.heap.NoLimit) (hg : s₁.gens = #[])
    (ha : s₁.heap.get? a = some { cls := .type "list", data := .seq vs.toArray }) (hi : IntsAre vs ns) (hl : ns.length ≤ sizeLine) (hr : Room k callerA)
    (F : ∀ base : Heap, K.In base → base.Ns mainGlobals mg → FnG P w K mg base CX k fa fd [x] sp) (hbind : ∀ (s : Shared) (u : Value), BindsTo s fd ⟨[u], []⟩ [(x, u)])
    (hsp : ∀ H : Hp, Only H → SqL K H a (ns.map V.int) → sp [.ref a] H (fun v _ => v = .bl true) fun _ _ _ => False)
    (hCX : ∀ H e s', CX [] H s₁ (fun _ _ _ => False) e s' → False) :
    codeAny (model P w) callerA (.call (.ref fa) ⟨[.ref a], []⟩) (fun r s' => r = .ok (.ret (.bool true)) ∧ OldK s₁.heap s'.heap ∧ s'.os = s₁.os ∧ AllBare s'.gens) s₁ := by
  have rv := vals_ints hi
  have lenV := hi.length
  -- from an abstract heap in which nothing but the script may be tracked
  have core : ∀ H : Hp, Only H → SqL K H a (ns.map V.int) → HOk P w H s₁.heap → (∀ b, H b ≠ none → b = a) → (H a ≠ none → K.lookup a = none) →
      codeAny (model P w) callerA (.call (.ref fa) ⟨[.ref a], []⟩) (fun r s' => r = .ok (.ret (.bool true)) ∧ OldK s₁.heap s'.heap ∧ s'.os = s₁.os ∧ AllBare s'.gens) s₁ := by
    intro H hO hS hok hA hK
    have base_of : ∀ {b : Addr} {o : Obj}, s₁.heap.get? b = some o → H b = none → (hidT s₁.heap H).get? b = some o := fun e n => hidT_get e n
    have noA : ∀ {b : Addr} {o : Obj} {es : Array DictEntry} {ep : Nat}, s₁.heap.get? b = some o → o.data = .dict es ep → H b = none := fun {b o es ep} e d => by
      cases q : H b with
      | none => rfl
      | some u =>
        have e' : b = a := hA b (by rw [q]; simp)
        subst e'
        rw [ha] at e; cases e
        have d' : Data.seq vs.toArray _ = Data.dict es ep := d
        cases d'
    have nsK : ∀ {b : Addr} {m : Str → Option Value}, s₁.heap.Ns b m → (hidT s₁.heap H).Ns b m := fun {b m} ⟨o, es, ep, e, d, r⟩ => ⟨o, es, ep, base_of e (noA e d), d, r⟩
    have hKb : K.In (hidT s₁.heap H) := fun b o e => base_of (KX b o e) (by
      cases q : H b with
      | none => rfl
      | some u =>
        have e' : b = a := hA b (by rw [q]; simp)
        subst e'
        rw [hK (by rw [q]; simp)] at e; cases e)
    have hM : Mod K mg (hidT s₁.heap H) := ⟨hKb, nsK hns, ⟨mb, nsK hb, hbb⟩, let ⟨mc, h1, h2⟩ := hlim; ⟨mc, nsK h1, h2⟩⟩
    have e0 : Env0 P w K mg (hidT s₁.heap H) callerA [] s₁ H := ⟨rfl, hM, fun b o e => of_hidT e, Nat.le_of_eq (hidT_size _ _), trivial, fun b hb => absurd (show b ∈ ([] : List Addr) from hb) (by simp), hok, .of_eq hg⟩
    refine codeAny_mono ((F _ hKb (nsK hns)).run callerA [] s₁ H ⟨[.ref a], []⟩ [.ref a] [.ref a] _ _ rfl hr e0 (hbind s₁ (.ref a)) (.cons rfl .nil) (hsp H hO hS)) fun r s' h => ?_
    cases r with
    | error e => exact (hCX H e s' h).elim
    | ok fl =>
      cases fl with
      | next => exact False.elim h
      | brk => exact False.elim h
      | cont => exact False.elim h
      | ret u =>
        obtain ⟨v, H', os, bare, un, hok', r', q⟩ := h
        have q' : v = .bl true := q
        subst q'
        obtain rfl : u = Value.bool true := r'
        refine ⟨rfl, OldK.of_keep fun b o e => ?_, os, bare⟩
        cases q : H b with
        | none => exact un.keep b o e q (by intro z; exact absurd (show b ∈ ([] : List Addr) from z) (by simp)) (by simp)
        | some u =>
          rcases hO b with z | ⟨ob, xs, z⟩
          · rw [q] at z; cases z
          · have z2 := un.frzs b ob _ z
            obtain ⟨e1, _⟩ := hok b _ z
            obtain ⟨e2, _⟩ := hok' b _ z2
            rw [e] at e1; cases e1
            exact e2
  cases hk : K.lookup a with
  | some o =>
    -- the script is one of the module's own objects
    have e := KX a o hk
    rw [ha] at e
    cases e
    refine core (fun _ => none) (fun _ => .inl rfl) (.inr ⟨_, vs.toArray, _, hk, rfl, rfl, rfl, by rw [List.size_toArray, lenV]; exact hl, by simpa using rv⟩) (fun b u z => by have z' : (none : Option HO) = some u := z; cases z') (fun b z => absurd rfl z) fun z => absurd rfl z
  | none =>
    refine core (fun b => if b = a then some (.frz { cls := .type "list", data := .seq vs.toArray } (.lst (ns.map V.int))) else none) (fun b => ?_) (.inl (.inr ⟨{ cls := .type "list", data := .seq vs.toArray }, if_pos rfl⟩)) (fun b u z => ?_) (fun b z => ?_) fun _ => hk
    · by_cases hb : b = a
      · exact .inr ⟨_, _, if_pos hb⟩
      · exact .inl (if_neg hb)
    · by_cases hb : b = a
      · have z' := (if_pos hb).symm.trans z
        cases z'
        subst hb
        exact ⟨ha, by rw [List.length_map]; exact hl, vs, _, rv, ha⟩
      · have z' := (if_neg hb).symm.trans z
        cases z'
    · by_cases hb : b = a
      · exact hb
      · exact absurd (if_neg hb) z
/-- the end: from the law as a def that is called where no guard is held -/
theorem walk_ofG {l : PySem.W.OpenLaw} {n k : Nat} {q : Program} {loose : List Str} {XP : (Str → Option Value) → Heap → Prop} {YP : World → Heap → Prop} {d : DefRec} {CX : World → CXT} {x : Str}
    (hn : l.most = some n) (hn2 : n ≤ sizeLine) (hdf : d.params.defaults = []) (hr : Room k callerA)
    (F : ∀ (w : World) (mg : Str → Option Value) (fa : Addr) (h : Heap), YP w h → h.Ns mainGlobals mg → mg d.name = some (.ref fa) →
      ∃ (K : PySem.W.Frag) (fd : FuncData) (sp : Sp), K.In h ∧ (∀ (s : Shared) (u : Value), BindsTo s fd ⟨[u], []⟩ [(x, u)]) ∧
        (∀ (H : Hp) (a : Addr) (ns : List Int), ns.length ≤ n → Only H → SqL K H a (ns.map V.int) → sp [.ref a] H (fun v _ => v = .bl true) fun _ _ _ => False) ∧
        ∀ base : Heap, K.In base → base.Ns mainGlobals mg → FnG l.prog w K mg base (CX w) k fa fd [x] sp)
    (hCX : ∀ (w : World) (H : Hp) (s : Shared) (e : Value) (s' : Shared), CX w [] H s (fun _ _ _ => False) e s' → False) :
    PySem.W.WalkO q loose XP YP l.row.toRowW d [] (fun f vs => PySem.call f vs) := by
  refine Att.attach_call hn hdf fun w s₀ s₁ mg mb fa o pm cd doc a vs ns G Y ho hd hcd hmg hobj hints hlen hg => ?_
  obtain ⟨K, fd, sp, KX, hb, hsp, hF⟩ := F w mg fa _ Y G.T.g hmg
  exact law_callG KX G.T.g G.T.b G.T.builtins G.T.nolimit hg hobj hints (Nat.le_trans hlen hn2) hr hF hb (fun H hO hS => hsp H a ns hlen hO hS) fun H e s' => hCX w H s₁ e s'
end Sa

set_option maxHeartbeats 4000000
/-! What the head tells of a program's top, by names. -/
namespace Sa
open PySem PySem.Spec PyProof.Rows L2 NdefX He
/-- an error class and its __init__, super() first -/
structure SupD where
  cls : Str
  qual : Str
  params : Arguments
  body : List Stmt
  scope : Scope
  flds : List Str
abbrev FnS : Type := Option (Str × Str × Arguments × FuncBody × Scope × Addr × Addr)
def SupD.at_ (K : PySem.W.Frag) (d : SupD) : Addr := ma K (ga K d.cls) "__init__"
def SupD.see (K : PySem.W.Frag) (d : SupD) : FnS := match K.lookup (d.at_ K) with
  | some ⟨_, _, .func fd, _⟩ => some (fd.name, fd.qualname, fd.params, fd.body, fd.scope, fd.globals, fd.builtins)
  | _ => none
def SupD.val (d : SupD) : FnS := some ("__init__", d.qual, d.params, .stmts d.body, d.scope, mainGlobals, builtinsNs)
def SupD.cell (K : PySem.W.Frag) (d : SupD) : Addr := match K.lookup (d.at_ K) with
  | some ⟨_, _, .func fd, _⟩ => (match fd.closure with
    | [(_, c)] => c
    | _ => 0)
  | _ => 0
def SupD.code (K : PySem.W.Frag) (d : SupD) : Addr := match K.lookup (d.at_ K) with
  | some ⟨_, _, .func fd, _⟩ => (match fd.code with
    | .ref c => c
    | _ => 0)
  | _ => 0
def SupD.nf (K : PySem.W.Frag) (d : SupD) : NF := ⟨"__init__", d.qual, d.params, d.body, d.scope, [(("__class__" : Str), d.cell K)], d.code K⟩
/-- a class below ValueError alone, whatever its __init__ -/
def oexB (K : PySem.W.Frag) (C : Addr) : Bool := (match K.lookup C with
  | some ⟨.type "type", _, .cls cd, sl⟩ => (match cd.mro, sl.toList with
    | .ref C' :: bm, [_, _, _, _, some (.builtin n), _] => decide (C' = C) && (decide (n = "ValueError.__new__") && (!cd.hasDel && (cd.hasDict && HandSPX.refsVE bm)))
    | _, _ => false)
  | _ => false) && (decide (PySem.W.findIn K (.ref C) "__setattr__" = some (some (.builtin "object.__setattr__"))) && (decide (PySem.W.subIn K (.ref C) (.type "BaseException") = some true) && (decide (PySem.W.typeIn K (.ref C) = some (.type "type")) && PySem.W.keepIn K (.ref C))))
theorem oexB_ok {K : PySem.W.Frag} {C : Addr} (h : oexB K C = true) : OexC K C := by
  obtain ⟨h1, h⟩ := ba h
  obtain ⟨h2, h⟩ := ba h
  obtain ⟨h3, h⟩ := ba h
  obtain ⟨h4, h5⟩ := ba h
  refine ⟨?_, of_decide_eq_true h2, of_decide_eq_true h3, of_decide_eq_true h4, h5⟩
  split at h1
  · rename_i dd cd sl ho
    split at h1
    · rename_i C' bm k0 k1 k2 k3 n k5 hm hs
      obtain ⟨e1, h1⟩ := ba h1
      obtain ⟨e2, h1⟩ := ba h1
      obtain ⟨e3, h1⟩ := ba h1
      obtain ⟨e4, e5⟩ := ba h1
      have e1 := of_decide_eq_true e1
      have e2 := of_decide_eq_true e2
      subst e1 e2
      obtain ⟨nm, bs, mro, ns, qn, hd, sn, sub, ab, col, del⟩ := cd
      have d3 : del = false := by simpa using e3
      have d4 : hd = true := e4
      dsimp only at hm
      subst hm
      subst d3
      subst d4
      have hsl : sl = #[k0, k1, k2, k3, some (.builtin "ValueError.__new__"), k5] := by
        obtain ⟨l⟩ := sl
        simp only at hs
        rw [hs]
      subst hsl
      exact ⟨_, _, _, _, _, _, _, _, _, _, _, _, _, _, _, ho, e5⟩
    · cases h1
  · cases h1
def excB (K : PySem.W.Frag) (D : Addr) : Bool := decide (PySem.W.findIn K (.ref D) "__getattribute__" = some (some (.builtin "BaseException.__getattribute__"))) && (decide (PySem.W.findIn K (.ref D) "__getattr__" = some none) && (decide (PySem.W.subIn K (.ref D) (.type "BaseException") = some true) && (PySem.W.hasDictIn K D &&
  (decide (PySem.W.findIn K (.ref D) "__class__" = some (some (.builtin "object.__class__"))) && (decide (PySem.W.specialIn K (.builtin "object.__class__") "__get__" = some (some (.builtin "getset_descriptor.__get__"))) && (decide (PySem.W.takesIn K (.builtin "object.__class__") = some true) && decide (PySem.W.mroIn K D (.type "object") = some true)))))))
theorem excB_ok {K : PySem.W.Frag} {D : Addr} (h : excB K D = true) : ExcC K D := by
  obtain ⟨h1, h⟩ := ba h
  obtain ⟨h2, h⟩ := ba h
  obtain ⟨h3, h⟩ := ba h
  obtain ⟨h4, h⟩ := ba h
  obtain ⟨h5, h⟩ := ba h
  obtain ⟨h6, h⟩ := ba h
  obtain ⟨h7, h8⟩ := ba h
  exact ⟨of_decide_eq_true h1, of_decide_eq_true h2, of_decide_eq_true h3, h4, of_decide_eq_true h5, of_decide_eq_true h6, of_decide_eq_true h7, of_decide_eq_true h8⟩
theorem ExcC.xf {K : PySem.W.Frag} {C : Addr} (T : ExcC K C) : XfC K C := ⟨T.hg, T.hk, T.hs, T.hd⟩
def supShape (cl : List (Str × Addr)) (cd dv kv : Value) : Bool := match cl, cd, dv, kv with
  | [(x, _)], .ref _, .none, .none => decide (x = ("__class__" : Str))
  | _, _, _, _ => false
theorem supShape_ok {cl : List (Str × Addr)} {cd dv kv : Value} (h : supShape cl cd dv kv = true) : ∃ cc kc, cl = [(("__class__" : Str), cc)] ∧ cd = .ref kc ∧ dv = .none ∧ kv = .none := by
  unfold supShape at h
  split at h
  · have e := of_decide_eq_true h
    subst e
    exact ⟨_, _, rfl, rfl, rfl, rfl⟩
  · cases h
/-- the file of every code object of the program -/
def theFile : Str := "/claim/cut.py"
def SupD.ok (K : PySem.W.Frag) (d : SupD) : Bool := oexB K (ga K d.cls) && (excB K (ga K d.cls) && (decide (PySem.W.findIn K (.ref (ga K d.cls)) "__init__" = some (some (.ref (d.at_ K)))) && (decide (PySem.W.typeIn K (.ref (d.at_ K)) = some (.type "function")) &&
  (PySem.W.codeIn K (.ref (d.code K)) d.qual && ((match K.lookup (d.code K) with
    | some ⟨_, _, .fields vs, _⟩ => (match (vs[2]? : Option Value) with
      | some (.str f _) => theFile == f
      | _ => false)
    | _ => false) && ((match K.lookup (d.cell K) with
    | some ⟨_, _, .cell (some (.ref c)), _⟩ => decide (c = ga K d.cls)
    | _ => false) && ((match K.lookup (d.at_ K) with
    | some ⟨_, _, .func fd, _⟩ => supShape fd.closure fd.code fd.defaults fd.kwdefaults
    | _ => false) && (decide (PySem.W.ks_superIn K (ga K d.cls) (ga K d.cls) "__init__" = some (some (.builtin "ValueError.__init__"))) && (decide (PySem.W.subIn K (.ref (ga K d.cls)) (.type "ValueError") = some true) && (decide (PySem.W.mroIn K (ga K d.cls) (.ref (ga K d.cls)) = some true) &&
    (decide (PySem.W.nsIn K cStatics "thirdparty.any" = some none) && d.flds.all fun f => decide (PySem.W.findIn K (.ref (ga K d.cls)) f = some none))))))))))))
theorem SupD.supK {P : Program} {K : PySem.W.Frag} {d : SupD} (hf : P.main.file = theFile) (e : d.see K = d.val) (h : d.ok K = true) :
    (∃ fd, SupK P K (ga K d.cls) (d.nf K) (d.at_ K) fd) ∧ ExcC K (ga K d.cls) ∧ ∀ f ∈ d.flds, PySem.W.findIn K (.ref (ga K d.cls)) f = some none := by
  obtain ⟨h1, h⟩ := ba h
  obtain ⟨h2, h⟩ := ba h
  obtain ⟨h3, h⟩ := ba h
  obtain ⟨h4, h⟩ := ba h
  obtain ⟨h5, h⟩ := ba h
  obtain ⟨h6, h⟩ := ba h
  obtain ⟨h7, h⟩ := ba h
  obtain ⟨h8, h⟩ := ba h
  obtain ⟨h9, h⟩ := ba h
  obtain ⟨h10, h⟩ := ba h
  obtain ⟨h11, h⟩ := ba h
  obtain ⟨h12, h13⟩ := ba h
  refine ⟨?_, excB_ok h2, fun f hfm => of_decide_eq_true (List.all_eq_true.mp h13 f hfm)⟩
  have hcode : ∃ (ccl : Value) (cdd : Option Addr) (vs : Array Value) (ccs : Array (Option Value)) (file : Str) (tf : Tok), K.lookup (d.code K) = some ⟨ccl, cdd, .fields vs, ccs⟩ ∧ vs[2]? = some (.str file tf) ∧ ((P.main.file : Str) == file) = true := by
    split at h6
    · rename_i ccl cdd vs ccs ho
      split at h6
      · rename_i f t hv
        exact ⟨ccl, cdd, vs, ccs, f, t, ho, hv, by rw [hf]; exact h6⟩
      · cases h6
    · cases h6
  have hcell : ∃ (cc : Addr) (a : Value) (b : Option Addr) (c : Array (Option Value)), [(("__class__" : Str), d.cell K)] = [(("__class__" : Str), cc)] ∧ K.lookup cc = some ⟨a, b, .cell (some (.ref (ga K d.cls))), c⟩ := by
    split at h7
    · rename_i a b c sl ho
      have z := of_decide_eq_true h7
      subst z
      exact ⟨_, a, b, sl, rfl, ho⟩
    · cases h7
  have e0 : (match K.lookup (d.at_ K) with
    | some ⟨_, _, .func fd, _⟩ => some (fd.name, fd.qualname, fd.params, fd.body, fd.scope, fd.globals, fd.builtins)
    | _ => none) = (some ("__init__", d.qual, d.params, .stmts d.body, d.scope, mainGlobals, builtinsNs) : FnS) := e
  have hc : (match K.lookup (d.at_ K) with
    | some ⟨_, _, .func fd, _⟩ => (match fd.closure with
      | [(_, c)] => c
      | _ => 0)
    | _ => 0) = d.cell K := rfl
  have hk : (match K.lookup (d.at_ K) with
    | some ⟨_, _, .func fd, _⟩ => (match fd.code with
      | .ref c => c
      | _ => 0)
    | _ => 0) = d.code K := rfl
  cases q : K.lookup (d.at_ K) with
  | none =>
    rw [q] at e0
    cases e0
  | some o =>
    obtain ⟨oc, od, dt, osl⟩ := o
    rw [q] at e0 h8 hc hk
    cases dt with
    | func fd =>
      obtain ⟨n1, n2, n3, n4, n5, n6, n7, n8, n9, n10, n11, n12, n13, n14, n15⟩ := fd
      have e2 : (some (n1, n2, n3, n4, n5, n6, n15) : FnS) = (some (("__init__" : Str), d.qual, d.params, FuncBody.stmts d.body, d.scope, mainGlobals, builtinsNs) : FnS) := e0
      simp only [Option.some.injEq, Prod.mk.injEq] at e2
      obtain ⟨g1, g2, g3, g4, g5, g6, g7⟩ := e2
      subst g1 g2 g3 g4 g5 g6 g7
      have h8' : supShape n7 n13 n8 n9 = true := h8
      obtain ⟨cc, kc, y1, y2, y3, y4⟩ := supShape_ok h8'
      subst y1 y2 y3 y4
      have hc' : cc = d.cell K := hc
      have hk' : kc = d.code K := hk
      refine ⟨_, oexB_ok h1, of_decide_eq_true h3, of_decide_eq_true h4, ⟨oc, od, n10, n11, n14, n12, osl, rfl, ?_⟩, h5, hcode, hcell, of_decide_eq_true h9, of_decide_eq_true h10, of_decide_eq_true h11, of_decide_eq_true h12⟩
      rw [q]
      show some _ = some _
      unfold SupD.nf
      rw [← hc', ← hk']
    | _ => cases e0
end Sa

set_option maxHeartbeats 4000000
namespace Sa
open PySem PySem.Spec PyProof.Rows L2 NdefX He
/-! ### the Hook -/
structure Sx where
  glos : List Str
  frees : List Str
  defs : List DefD
  sups : List SupD
  chk : PySem.W.Frag → Bool
abbrev AlS : Type := Bool × List FnW × List FnS
def sysB (K : PySem.W.Frag) : Bool := match K.lookup sysModules with
  | some ⟨.type "dict", _, _, _⟩ => true
  | _ => false
theorem sysB_ok {K : PySem.W.Frag} (h : sysB K = true) : SysK K := by
  unfold sysB at h
  split at h
  · rename_i a b c ho
    exact ⟨_, ho, rfl⟩
  · cases h
def obsS (sp : Sx) (K : PySem.W.Frag) : AlS := ((sp.glos.all fun x => (Fa.glo x).ok K) && ((sp.frees.all fun x => (Fa.free x).ok K) && ((sp.defs.all fun d => d.ok K) && ((sp.sups.all fun d => d.ok K) && (sysB K && sp.chk K)))), sp.defs.map fun d => fnW K d.at_, sp.sups.map fun d => d.see K)
def valS (sp : Sx) : AlS := (true, sp.defs.map DefD.val, sp.sups.map SupD.val)
def asS (g : Addr → Option Obj) (n : Nat) : List Addr := asD g n ++ [cStatics, sysModules]
def obsSG (n : Nat) (sp : Sx) (g : Addr → Option Obj) : AlS := obsS sp (frG g (asS g n))
def hookS (n : Nat) (sp : Sx) : PySem.W.Hook where
  α := AlS
  obs := fun s => obsSG n sp s.heap.get?
  val := fun _ => valS sp
  says := fun _ h => ∃ K : PySem.W.Frag, K.In h ∧ obsS sp K = valS sp
  of := fun _ _ e => ⟨_, frG_in, e⟩
  keeps := fun _ _ _ ⟨K, hK, c⟩ k => ⟨K, PySem.W.Frag.In.keeps hK k, c⟩
theorem obsSG_eq {n : Nat} {sp : Sx} {g : Addr → Option Obj} {s : Shared} (h : ∀ a, g a = s.heap.get? a) : obsSG n sp g = (hookS n sp).obs s := by
  have e : g = s.heap.get? := funext h
  rw [e] <;> rfl
def obS (n : Nat) (A : Sx) (s : PySem.W.SharedT) : AlS := obsSG n A (HandSHeadRun.getT s)
theorem obS_eq (n : Nat) (A : Sx) (s : PySem.W.SharedT) : obS n A s = (hookS n A).obs s.abs := obsSG_eq (HandSHeadRun.getT_eq s)
/-- two lists of facts, each asked by a run of its own -/
def hookP (n : Nat) (A B : Sx) : PySem.W.Hook where
  α := AlS × AlS
  obs := fun s => (obsSG n A s.heap.get?, obsSG n B s.heap.get?)
  val := fun _ => (valS A, valS B)
  says := fun _ h => ∃ K : PySem.W.Frag, K.In h ∧ obsS A K = valS A ∧ obsS B K = valS B
  of := fun _ _ e => ⟨_, frG_in, congrArg Prod.fst e, congrArg Prod.snd e⟩
  keeps := fun _ _ _ ⟨K, hK, c⟩ k => ⟨K, PySem.W.Frag.In.keeps hK k, c⟩
def obP (n : Nat) (A B : Sx) (s : PySem.W.SharedT) : AlS × AlS := (obsSG n A (HandSHeadRun.getT s), obsSG n B (HandSHeadRun.getT s))
theorem obP_eq (n : Nat) (A B : Sx) (s : PySem.W.SharedT) : obP n A B s = (hookP n A B).obs s.abs := by
  have e : HandSHeadRun.getT s = s.abs.heap.get? := funext (HandSHeadRun.getT_eq s)
  show (obsSG n A (HandSHeadRun.getT s), obsSG n B (HandSHeadRun.getT s)) = _
  rw [e] <;> rfl
noncomputable abbrev endQ (r : PySem.W.OpenRow) (M : Nat) (w : World) (os : OsState) : Option PySem.W.SharedT := HandSHeadRun.endF (HandSHeadRun.stepQ (HandSHeadRun.denQ HandSHeadRun.tabQ) r.prog w) M r.prog w os
/-- the head's equation of three runs -/
theorem run_split {r : PySem.W.OpenRow} {q : Program} {n M : Nat} {A B : Sx} {loose : List PySem.Str} {w : World}
    (h1 : ∀ os : OsState, (endQ r M w os).map (fun s => (HandSHeadRun.looksF r.prog (PySem.W.boot_heap w.params) s.abs, HandSHeadRun.seenQ q loose (importedModules r.prog.main.body) (fun s => PySem.W.xlAt q [] s && PySem.W.recOk r.toRowW.records s) s.abs)) = some (true, PySem.W.openGood q loose))
    (h2 : ∀ os : OsState, (endQ r M w os).map (fun s => obsSG n A (HandSHeadRun.getT s)) = some (valS A))
    (h3 : ∀ os : OsState, (endQ r M w os).map (fun s => obsSG n B (HandSHeadRun.getT s)) = some (valS B)) : HandSHeadRun.RunEq r q (hookP n A B) (obP n A B) M loose w := by
  intro os
  have a1 := h1 os
  have a2 := h2 os
  have a3 := h3 os
  show (endQ r M w os).map _ = _
  cases e : endQ r M w os with
  | none =>
    rw [e] at a1
    cases a1
  | some s =>
    rw [e] at a1 a2 a3
    obtain ⟨b0, b1⟩ := Prod.mk.inj (Option.some.inj a1)
    have b2 : obsSG n A (HandSHeadRun.getT s) = valS A := Option.some.inj a2
    have b3 : obsSG n B (HandSHeadRun.getT s) = valS B := Option.some.inj a3
    exact congrArg some (Prod.ext b0 (Prod.ext b1 (Prod.ext b2 b3)))
/-- what stands behind the top -/
structure Tx (sp : Sx) (K : PySem.W.Frag) (mg : Str → Option Value) : Prop where
  at_ : ∃ h : Heap, K.In h ∧ h.Ns mainGlobals mg
  c : obsS sp K = valS sp
def mkD (x : Str) (st : Stmt) : DefD := ⟨(x, none), x, x, defArgs st, defBody st, defScope st, [], []⟩
section
variable {sp : Sx} {K : PySem.W.Frag} {mg : Str → Option Value}
theorem Tx.all (T : Tx sp K mg) : ((sp.glos.all fun x => (Fa.glo x).ok K) = true ∧ (sp.frees.all fun x => (Fa.free x).ok K) = true) ∧ ((sp.defs.all fun d => d.ok K) = true ∧ (sp.sups.all fun d => d.ok K) = true) ∧ (sysB K = true ∧ sp.chk K = true) := by
  obtain ⟨h1, h⟩ := ba (congrArg (fun z : AlS => z.1) T.c)
  obtain ⟨h2, h⟩ := ba h
  obtain ⟨h3, h⟩ := ba h
  obtain ⟨h4, h⟩ := ba h
  obtain ⟨h5, h6⟩ := ba h
  exact ⟨⟨h1, h2⟩, ⟨h3, h4⟩, h5, h6⟩
theorem Tx.glo (T : Tx sp K mg) (x : Str) (h : x ∈ sp.glos := by decide +kernel) : mg x = some (.ref (ga K x)) := by
  obtain ⟨_, X, G⟩ := T.at_
  exact glo_ok X G (List.all_eq_true.mp T.all.1.1 x h)
theorem Tx.free (T : Tx sp K mg) (x : Str) (h : x ∈ sp.frees := by decide +kernel) : mg x = none := by
  obtain ⟨_, X, G⟩ := T.at_
  exact free_ok X G (List.all_eq_true.mp T.all.1.2 x h)
theorem Tx.sys (T : Tx sp K mg) : SysK K := sysB_ok T.all.2.2.1
theorem Tx.chk (T : Tx sp K mg) : sp.chk K = true := T.all.2.2.2
theorem Tx.def_ (T : Tx sp K mg) (i : Nat) {x : Str} {st : Stmt} (h : sp.defs[i]? = some (mkD x st)) : ∃ fd, FunD K x x (defArgs st) (defBody st) (defScope st) [] [] (ga K x) fd := by
  have e : sp.defs.map (fun d => fnW K d.at_) = sp.defs.map DefD.val := congrArg (fun z : AlS => z.2.1) T.c
  have e2 : (sp.defs.map fun d => fnW K d.at_)[i]? = (sp.defs.map DefD.val)[i]? := by rw [e]
  rw [List.getElem?_map, List.getElem?_map, h] at e2
  exact DefD.funD (d := mkD x st) (Option.some.inj e2) (List.all_eq_true.mp T.all.2.1.1 _ (List.mem_of_getElem? h))
theorem Tx.sup (T : Tx sp K mg) (i : Nat) {P : Program} {d : SupD} (hf : P.main.file = theFile) (h : sp.sups[i]? = some d) :
    (∃ fd, SupK P K (ga K d.cls) (d.nf K) (d.at_ K) fd) ∧ ExcC K (ga K d.cls) ∧ ∀ f ∈ d.flds, PySem.W.findIn K (.ref (ga K d.cls)) f = some none := by
  have e : sp.sups.map (fun d => d.see K) = sp.sups.map SupD.val := congrArg (fun z : AlS => z.2.2) T.c
  have e2 : (sp.sups.map fun d => d.see K)[i]? = (sp.sups.map SupD.val)[i]? := by rw [e]
  rw [List.getElem?_map, List.getElem?_map, h] at e2
  exact SupD.supK hf (Option.some.inj e2) (List.all_eq_true.mp T.all.2.1.2 _ (List.mem_of_getElem? h))
end
/-! ### a def by its promise -/
structure Cal (P : Program) (w : World) (K : PySem.W.Frag) (mg : Str → Option Value) (base : Heap) (x : Str) (k : Nat) (ps : List Str) (sp : Sp) : Prop where
  ok : ∃ fd, FnOk P w K mg base (L2.CX P w) k (ga K x) fd ps sp ∧ Binds K fd ps [] ∧ ∃ oc od osl, K.lookup (ga K x) = some ⟨oc, od, .func fd, osl⟩
  kp : PySem.W.keepIn K (.ref (ga K x)) = true
  at_ : mg x = some (.ref (ga K x))
theorem FunD.at_ {K : PySem.W.Frag} {x qual : Str} {params : Arguments} {body : List Stmt} {scope : Scope} {dvs : List V} {kws : List (Str × V)} {f : Addr} {fd : FuncData} (F : FunD K x qual params body scope dvs kws f fd) : ∃ oc od osl, K.lookup f = some ⟨oc, od, .func fd, osl⟩ := by
  obtain ⟨oc, od, _, _, _, _, _, _, _, osl, _, lk, _⟩ := F.ex
  exact ⟨oc, od, osl, lk⟩
/-- .. where no guard of repr is held -/
structure CalG (P : Program) (w : World) (K : PySem.W.Frag) (mg : Str → Option Value) (base : Heap) (x : Str) (k : Nat) (ps : List Str) (sp : Sp) : Prop where
  ok : ∃ fd, FnG P w K mg base (L2.CX P w) k (ga K x) fd ps sp ∧ ∀ (s : Shared) (us : List Value), us.length = ps.length → BindsTo s fd ⟨us, []⟩ (ps.zip us)
  kp : PySem.W.keepIn K (.ref (ga K x)) = true
  at_ : mg x = some (.ref (ga K x))
section
variable {P : Program} {w : World} {K : PySem.W.Frag} {mg : Str → Option Value} {base : Heap} {sx : Sx} {x : Str} {st : Stmt} {N ps : List Str} {k : Nat} {sp : Sp}
theorem Tx.cal (T : Tx sx K mg) (i : Nat) (hd : sx.defs[i]? = some (mkD x st)) (hx : x ∈ sx.glos) (S : FnScope N ps (defScope st)) (len : ∀ vs H Q E, sp vs H Q E → vs.length = ps.length)
    (hbind : ∀ (kV doc pm : Value) (an : Option Addr) (cdv ct : Value) (us : List Value), us.length = ps.length → bindArgs (PySem.W.fnOf x x (defArgs st) (defBody st) (defScope st) .none kV doc pm an cdv ct) ⟨us, []⟩ = pure (ps.zip us))
    (hbody : ∀ (cdv : Value) (A : Around) (outer : List Env) (s : Shared) (H : Hp) (vs : List V) (Q : VK) (E : XK), Room k (A.deeper (envOfC x (defScope st) s.heap.objs.size (ga K x) cdv)) → sp vs H Q E →
      ∃ t, PSs (cxOf (L2.CX P w) P w K mg base N x (defScope st) (ga K x) cdv A outer s H E).nox (defBody st) t ∧ t { nx := fun _ H' => Q .non H', rt := Q } (start N vs) H) : Cal P w K mg base x (k + 1) ps sp := by
  obtain ⟨fd, F⟩ := T.def_ i hd
  refine ⟨⟨fd, F.ok S len fun cdv A outer s H vs Q E hr h => ?_, F.bindsN hbind, FunD.at_ F⟩, F.kp, T.glo x hx⟩
  obtain ⟨t, h1, h2⟩ := hbody cdv A outer s H vs Q E hr h
  exact ⟨t, h1.nox, h2⟩
/-- .. that may raise -/
theorem Tx.calX (T : Tx sx K mg) (i : Nat) (hd : sx.defs[i]? = some (mkD x st)) (hx : x ∈ sx.glos) (S : FnScope N ps (defScope st)) (len : ∀ vs H Q E, sp vs H Q E → vs.length = ps.length)
    (hbind : ∀ (kV doc pm : Value) (an : Option Addr) (cdv ct : Value) (us : List Value), us.length = ps.length → bindArgs (PySem.W.fnOf x x (defArgs st) (defBody st) (defScope st) .none kV doc pm an cdv ct) ⟨us, []⟩ = pure (ps.zip us))
    (hbody : ∀ (cdv : Value) (A : Around) (outer : List Env) (s : Shared) (H : Hp) (vs : List V) (Q : VK) (E : XK), Room k (A.deeper (envOfC x (defScope st) s.heap.objs.size (ga K x) cdv)) → sp vs H Q E →
      ∃ t, PSs (cxOf (L2.CX P w) P w K mg base N x (defScope st) (ga K x) cdv A outer s H E) (defBody st) t ∧ t { nx := fun _ H' => Q .non H', rt := Q } (start N vs) H) : Cal P w K mg base x (k + 1) ps sp := by
  obtain ⟨fd, F⟩ := T.def_ i hd
  exact ⟨⟨fd, F.ok S len hbody, F.bindsN hbind, FunD.at_ F⟩, F.kp, T.glo x hx⟩
theorem funG_nox {f : Addr} {fd : FuncData} {qual : Str} (F : FunD K x qual (defArgs st) (defBody st) (defScope st) [] [] f fd) (S : FnScope N ps (defScope st)) (len : ∀ vs H Q E, sp vs H Q E → vs.length = ps.length)
    (hbody : ∀ (cdv : Value) (A : Around) (outer : List Env) (s : Shared) (H : Hp) (vs : List V) (Q : VK) (E : XK), A.guards = some [] → Room k (A.deeper (envOfC qual (defScope st) s.heap.objs.size f cdv)) → sp vs H Q E →
      ∃ t, PSs (cxOf (L2.CX P w) P w K mg base N qual (defScope st) f cdv A outer s H E).nox (defBody st) t ∧ t { nx := fun _ H' => Q .non H', rt := Q } (start N vs) H) : FnG P w K mg base (L2.CX P w) (k + 1) f fd ps sp := by
  refine funG F S len fun cdv A outer s H vs Q E hg hr h => ?_
  obtain ⟨t, h1, h2⟩ := hbody cdv A outer s H vs Q E hg hr h
  exact ⟨t, h1.nox, h2⟩
theorem Tx.calG (T : Tx sx K mg) (i : Nat) (hd : sx.defs[i]? = some (mkD x st)) (hx : x ∈ sx.glos) (S : FnScope N ps (defScope st)) (len : ∀ vs H Q E, sp vs H Q E → vs.length = ps.length)
    (hbind : ∀ (kV doc pm : Value) (an : Option Addr) (cdv ct : Value) (us : List Value), us.length = ps.length → bindArgs (PySem.W.fnOf x x (defArgs st) (defBody st) (defScope st) .none kV doc pm an cdv ct) ⟨us, []⟩ = pure (ps.zip us))
    (hbody : ∀ (cdv : Value) (A : Around) (outer : List Env) (s : Shared) (H : Hp) (vs : List V) (Q : VK) (E : XK), A.guards = some [] → Room k (A.deeper (envOfC x (defScope st) s.heap.objs.size (ga K x) cdv)) → sp vs H Q E →
      ∃ t, PSs (cxOf (L2.CX P w) P w K mg base N x (defScope st) (ga K x) cdv A outer s H E).nox (defBody st) t ∧ t { nx := fun _ H' => Q .non H', rt := Q } (start N vs) H) : CalG P w K mg base x (k + 1) ps sp := by
  obtain ⟨fd, F⟩ := T.def_ i hd
  refine ⟨⟨fd, funG F S len fun cdv A outer s H vs Q E hg hr h => ?_, FunD.bindsA F hbind⟩, F.kp, T.glo x hx⟩
  obtain ⟨t, h1, h2⟩ := hbody cdv A outer s H vs Q E hg hr h
  exact ⟨t, h1.nox, h2⟩
end
section
variable {X : Cx} {x : Str} {j k : Nat} {ps : List Str} {sp : Sp} {p pos : Pos} {e : Expr} {es : List Expr} {t : TA}
theorem pe_cal (C : Cal X.prog X.w X.K X.mg X.base x k ps sp) (hr : Room j X.A) (ha : PA X (e :: es) t) (hk : k ≤ j := by decide) (hg : Gl X x := by rfl)
    (hdb : (x == ("__debug__" : Str)) = false := by decide) (he : starEach (e :: es) X.env = (false, eval e X.env) :: starEach es X.env := by rfl) (hpl : (backTo pos (starEach es X.env)).any (·.1) = false := by rfl) :
    PE X (.Call (.Name x p) (e :: es) [] pos) (tCall sp [] E0 t) := by
  obtain ⟨fd, F, b, _⟩ := C.ok
  exact pe_call F (hr.mono hk) hg C.at_ C.kp b .nil passL ha hdb he hpl
theorem pe_cal0 (C : Cal X.prog X.w X.K X.mg X.base x k ps sp) (hr : Room j X.A) (hk : k ≤ j := by decide) (hg : Gl X x := by rfl) (hdb : (x == ("__debug__" : Str)) = false := by decide) :
    PE X (.Call (.Name x p) [] [] pos) (tCall sp [] E0 tNil) := by
  obtain ⟨fd, F, b, _⟩ := C.ok
  exact pe_call0 F (hr.mono hk) hg C.at_ C.kp b .nil passL hdb
end
end Sa

set_option maxHeartbeats 4000000
namespace K19
open PySem PySem.Spec PyProof.Rows L2 He Sa
abbrev theP : Program := PySem.Challenge.pw_saidandasked_k19_programs_answer_words
def topS (i : Nat) : Stmt := PySem.Challenge.pw_saidandasked_k19_programs_answer_words.main.body.getD i (.Pass ⟨0, 0, 0, 0⟩)
abbrev sis_name : Stmt := topS 7
abbrev sis_number : Stmt := topS 9
abbrev sare_names : Stmt := topS 10
abbrev sis_call : Stmt := topS 11
abbrev sis_house : Stmt := topS 12
abbrev scalls_of : Stmt := topS 13
abbrev sanswers_of : Stmt := topS 14
abbrev sis_call_name : Stmt := topS 15
abbrev sis_answer : Stmt := topS 16
abbrev sis_word_of : Stmt := topS 17
abbrev sneed_word : Stmt := topS 18
abbrev sis_pair : Stmt := topS 20
abbrev sis_program : Stmt := topS 21
abbrev sneed_program : Stmt := topS 22
abbrev srun : Stmt := topS 23
abbrev shistory : Stmt := topS 24
abbrev sanswers : Stmt := topS 25
abbrev sstate_behind : Stmt := topS 26
abbrev sbegun : Stmt := topS 28
abbrev smixed : Stmt := topS 29
abbrev stake : Stmt := topS 30
abbrev spick : Stmt := topS 31
abbrev sshuffled : Stmt := topS 32
abbrev snames : Stmt := topS 33
abbrev shouse : Stmt := topS 34
abbrev scalls : Stmt := topS 35
abbrev sword : Stmt := topS 36
abbrev sprogram : Stmt := topS 37
abbrev sanswered : Stmt := topS 38
abbrev splaces : Stmt := topS 39
abbrev spart_at : Stmt := topS 40
abbrev sput_at : Stmt := topS 41
abbrev sodd : Stmt := topS 42
abbrev sbent : Stmt := topS 43
abbrev sall_names : Stmt := topS 44
abbrev sl_is_name : Stmt := topS 45
abbrev sl_are_names : Stmt := topS 46
abbrev shas_head : Stmt := topS 47
abbrev sl_is_house : Stmt := topS 48
abbrev sis_whole : Stmt := topS 49
abbrev sl_is_program : Stmt := topS 50
abbrev sstate : Stmt := topS 51
abbrev serror : Stmt := topS 52
abbrev sbad_word : Stmt := topS 53
abbrev slong_right : Stmt := topS 54
abbrev slaw : Stmt := topS 55
def glos0 : List Str := ["PageError", "BadProgram", "BadWord", "is_name", "is_number", "are_names", "is_call", "is_house", "calls_of", "answers_of", "is_call_name", "is_answer", "is_word_of", "need_word", "is_pair", "is_program", "need_program", "run", "history", "answers", "state_behind", "_law_begun", "_law_mixed", "_law_take", "_law_pick", "_law_shuffled", "_law_names", "_law_house", "_law_calls", "_law_word"]
def glos1 : List Str := ["_law_program", "_law_answered", "_law_places", "_law_part_at", "_law_put_at", "_law_odd", "_law_bent", "_law_all_names", "_law_is_name", "_law_are_names", "_law_has_head", "_law_is_house", "_law_is_whole", "_law_is_program", "_law_state", "_law_error", "_law_bad_word", "_law_long_right", "law", "KEPT"]
def glos : List Str := glos0 ++ glos1
def frees : List Str := ["ValueError", "abs", "all", "bool", "enumerate", "int", "isinstance", "len", "list", "min", "range", "repr", "set", "str", "tuple", "zip"]
def defs : List DefD := [mkD "is_name" sis_name, mkD "is_number" sis_number, mkD "are_names" sare_names, mkD "is_call" sis_call, mkD "is_house" sis_house, mkD "calls_of" scalls_of, mkD "answers_of" sanswers_of, mkD "is_call_name" sis_call_name, mkD "is_answer" sis_answer, mkD "is_word_of" sis_word_of, mkD "need_word" sneed_word, mkD "is_pair" sis_pair, mkD "is_program" sis_program, mkD "need_program" sneed_program, mkD "run" srun, mkD "history" shistory, mkD "answers" sanswers, mkD "state_behind" sstate_behind, mkD "_law_begun" sbegun, mkD "_law_mixed" smixed, mkD "_law_take" stake, mkD "_law_pick" spick, mkD "_law_shuffled" sshuffled, mkD "_law_names" snames, mkD "_law_house" shouse, mkD "_law_calls" scalls, mkD "_law_word" sword, mkD "_law_program" sprogram, mkD "_law_answered" sanswered, mkD "_law_places" splaces, mkD "_law_part_at" spart_at, mkD "_law_put_at" sput_at, mkD "_law_odd" sodd, mkD "_law_bent" sbent, mkD "_law_all_names" sall_names, mkD "_law_is_name" sl_is_name, mkD "_law_are_names" sl_are_names, mkD "_law_has_head" shas_head, mkD "_law_is_house" sl_is_house, mkD "_law_is_whole" sis_whole, mkD "_law_is_program" sl_is_program, mkD "_law_state" sstate, mkD "_law_error" serror, mkD "_law_bad_word" sbad_word, mkD "_law_long_right" slong_right, mkD "law" slaw]
def sups : List SupD := []
-- places of defs: is_name=0 is_number=1 are_names=2 is_call=3 is_house=4 calls_of=5 answers_of=6 is_call_name=7 is_answer=8 is_word_of=9 need_word=10 is_pair=11 is_program=12 need_program=13 run=14 history=15 answers=16 state_behind=17 begun=18 mixed=19 take=20 pick=21 shuffled=22 names=23 house=24 calls=25 word=26 program=27 answered=28 places=29 part_at=30 put_at=31 odd=32 bent=33 all_names=34 l_is_name=35 l_are_names=36 has_head=37 l_is_house=38 is_whole=39 l_is_program=40 state=41 error=42 bad_word=43 long_right=44 law=45
-- places of sups: 
def loose0 : List PySem.Str := ["PageError", "BadProgram", "BadWord", "is_name", "is_number", "are_names", "is_call", "is_house", "calls_of", "answers_of", "is_call_name", "is_answer", "is_word_of", "need_word", "is_pair", "is_program", "need_program", "run", "history", "answers", "state_behind", "_law_begun", "_law_mixed", "_law_take", "_law_pick", "_law_shuffled", "_law_names", "_law_house", "_law_calls", "_law_word"]
def loose1 : List PySem.Str := ["_law_program", "_law_answered", "_law_places", "_law_part_at", "_law_put_at", "_law_odd", "_law_bent", "_law_all_names", "_law_is_name", "_law_are_names", "_law_has_head", "_law_is_house", "_law_is_whole", "_law_is_program", "_law_state", "_law_error", "_law_bad_word", "_law_long_right", "KEPT", "SMALL"]
def loose : List PySem.Str := loose0 ++ loose1
def lawAt : Nat := 55
def keptL : List Str := ["answer", "ask", "call", "clause", "copy", "document", "draw", "false", "give", "house", "inner", "law", "never", "node", "outer", "program", "state", "true", "wait"]
def smallS : Str := "abcdefghijklmnopqrstuvwxyz"
def chk (K : PySem.W.Frag) : Bool := (Fa.str "SMALL" smallS).ok K && (tupB K "KEPT" (keptL.map Dv.str) && ((match K.lookup (ga K "KEPT") with | some o => o.dict.isNone | none => false) && ((Fa.exc "BadProgram").ok K && ((Fa.exc "BadWord").ok K && ((Fa.exm "BadProgram" "PageError" true).ok K && ((Fa.exm "BadWord" "PageError" true).ok K && (excB K (ga K "BadProgram") && excB K (ga K "BadWord"))))))))
def sx : Sx := ⟨glos, frees, defs, sups, chk⟩
end K19

set_option maxHeartbeats 4000000
/-! A law whose own body makes functions: its table of code objects is empty at the head's end and stands outside K. -/
namespace Sa
open PySem PySem.Spec PyProof.Rows L2 NdefX He
structure TabK (tf : List Defn) (sp : Sx) (h : Heap) (K : PySem.W.Frag) : Prop where
  c : obsS sp K = valS sp
  hd : ∀ p ∈ tf, PySem.W.codeHdIn K (cT K p).1 (cT K p).2 = true
  out : ∀ p ∈ tf, K.lookup (cT K p).2 = none
  empty : ∀ p ∈ tf, h.get? (cT K p).2 = some { cls := .none, data := .fields #[] }
def obsTS (n : Nat) (tf : List Defn) (sp : Sx) (g : Addr → Option Obj) : AlS × Bool := (obsS sp (frT g (asS g n)), tabsB g tf (frT g (asS g n)))
theorem tabK_of {n : Nat} {tf : List Defn} {sp : Sx} {h : Heap} (e : obsTS n tf sp h.get? = (valS sp, true)) : TabK tf sp h (frT h.get? (asS h.get? n)) := by
  have e1 : obsS sp (frT h.get? (asS h.get? n)) = valS sp := congrArg Prod.fst e
  have e2 : tabsB h.get? tf (frT h.get? (asS h.get? n)) = true := congrArg Prod.snd e
  generalize hK : frT h.get? (asS h.get? n) = K at *
  have key : ∀ p ∈ tf, PySem.W.codeHdIn K (cT K p).1 (cT K p).2 = true ∧ ∃ o, h.get? (cT K p).2 = some o ∧ emptyTab o = true := fun p hp => by
    obtain ⟨a, b⟩ := ba (List.all_eq_true.mp e2 p hp)
    refine ⟨a, ?_⟩
    cases q : h.get? (cT K p).2 with
    | none =>
      rw [q] at b
      cases b
    | some o =>
      rw [q] at b
      exact ⟨o, rfl, b⟩
  refine ⟨e1, fun p hp => (key p hp).1, fun p hp => ?_, fun p hp => ?_⟩
  · obtain ⟨_, o, q, z⟩ := key p hp
    rw [← hK] at q ⊢
    exact frT_none q z
  · obtain ⟨_, o, q, z⟩ := key p hp
    rw [q, emptyTab_eq z]
def hookTS (n : Nat) (tf : List Defn) (sp : Sx) : PySem.W.Hook where
  α := AlS × Bool
  obs := fun s => obsTS n tf sp s.heap.get?
  val := fun _ => (valS sp, true)
  says := fun _ h => ∃ K : PySem.W.Frag, K.In h ∧ TabK tf sp h K
  of := fun _ _ e => ⟨_, frT_in, tabK_of e⟩
  keeps := fun _ _ _ ⟨K, hK, c⟩ k => ⟨K, PySem.W.Frag.In.keeps hK k, ⟨c.c, c.hd, c.out, fun p hp => k _ _ (c.empty p hp)⟩⟩
def obTS (n : Nat) (tf : List Defn) (sp : Sx) (s : PySem.W.SharedT) : AlS × Bool := obsTS n tf sp (HandSHeadRun.getT s)
theorem obTS_eq (n : Nat) (tf : List Defn) (sp : Sx) (s : PySem.W.SharedT) : obTS n tf sp s = (hookTS n tf sp).obs s.abs := by
  have e : HandSHeadRun.getT s = s.abs.heap.get? := funext (HandSHeadRun.getT_eq s)
  show obsTS n tf sp (HandSHeadRun.getT s) = _
  rw [e] <;> rfl
section
variable {P : Program} {w : World} {K : PySem.W.Frag} {mg : Str → Option Value} {base : Heap} {CX : CXT} {k : Nat} {x : Str} {params : Arguments} {body : List Stmt} {scope : Scope} {fd : FuncData} {N ps : List Str} {sp : Sp}
/-- a def whose body knows its own code object -/
theorem funGC (F : FunD K x x params body scope [] [] (ga K x) fd) (S : FnScope N ps scope) (len : ∀ vs H Q E, sp vs H Q E → vs.length = ps.length)
    (hbody : ∀ (A : Around) (outer : List Env) (s : Shared) (H : Hp) (vs : List V) (Q : VK) (E : XK), A.guards = some [] → Room k (A.deeper (envOfC x scope s.heap.objs.size (ga K x) (.ref (cT K (x, none)).1))) → sp vs H Q E →
      ∃ t, PSs (cxOf CX P w K mg base N x scope (ga K x) (.ref (cT K (x, none)).1) A outer s H E) body t ∧ t { nx := fun _ H' => Q .non H', rt := Q } (start N vs) H) : FnG P w K mg base CX (k + 1) (ga K x) fd ps sp := by
  obtain ⟨oc, od, dV, kV, doc, pm, an, cdv, ct, osl, rfl, lk, hcd, e1, e2⟩ := F.ex
  obtain ⟨c, hc⟩ := codeIn_ref hcd
  have ec : (cT K (x, none)).1 = c := codeOf_eq (p := (x, none)) lk hc
  rw [ec] at hbody
  rw [hc] at lk hcd ⊢
  refine ⟨len, fun A outer s H args us vs Q E hg hr e0 hb r hsp => ?_⟩
  have hl : vs.length = ps.length := len _ _ _ _ hsp
  exact LamX.run_ofS lk hcd S hr e0 hb r hl fun hr' => hbody A outer s H vs Q E hg hr' hsp
end
end Sa

set_option maxHeartbeats 0
namespace K19
open PySem PySem.Spec PyProof.Rows L2 He Sa
abbrev Rw : PySem.W.OpenRow := PySem.W.OpenLaw.row PySem.Challenge.rw_saidandasked_k19_programs_answer_words
theorem run (w : World) : HandSHeadRun.RunEq Rw (PySem.W.view Rw.prog [lawAt]) (hookTS 4 [("law", none)] sx) (obTS 4 [("law", none)] sx) 20000 loose w := by
  intro os
  kernel_rfl
end K19

set_option maxHeartbeats 4000000
/-! The source of draws: a dict of four fields. -/
namespace Sa
open PySem PySem.Spec PyProof.Rows L2
def dk (aw ac : Addr) (rest turn : Int) : List (Key × V) := [(Sum.inr "wide", .ref aw), (Sum.inr "cells", .ref ac), (Sum.inr "rest", .int rest), (Sum.inr "turn", .int turn)]
section
variable {aw ac : Addr} {r t u : Int}
theorem dk_wide : valV (dk aw ac r t) (Sum.inr "wide") = some (.ref aw) := by kernel_rfl
theorem dk_cells : valV (dk aw ac r t) (Sum.inr "cells") = some (.ref ac) := by kernel_rfl
theorem dk_rest : valV (dk aw ac r t) (Sum.inr "rest") = some (.int r) := by kernel_rfl
theorem dk_turn : valV (dk aw ac r t) (Sum.inr "turn") = some (.int t) := by kernel_rfl
theorem put_rest : putK (dk aw ac r t) (Sum.inr "rest") (.int u) = dk aw ac u t := by kernel_rfl
theorem put_turn : putK (dk aw ac r t) (Sum.inr "turn") (.int u) = dk aw ac r u := by kernel_rfl
theorem dk_merge : mergeK [] (dk aw ac r t) = dk aw ac r t := by kernel_rfl
variable {H : Hp} {d : Addr}
theorem get_wide (h : H d = some (.dK (dk aw ac r t))) : DGet H d (.str "wide") (some (.ref aw)) := by
  rw [← dk_wide (r := r) (t := t)]
  exact DGet.k (k := Sum.inr "wide") h
theorem get_cells (h : H d = some (.dK (dk aw ac r t))) : DGet H d (.str "cells") (some (.ref ac)) := by
  rw [← dk_cells (r := r) (t := t)]
  exact DGet.k (k := Sum.inr "cells") h
theorem get_rest (h : H d = some (.dK (dk aw ac r t))) : DGet H d (.str "rest") (some (.int r)) := by
  rw [← dk_rest (aw := aw) (ac := ac) (r := r) (t := t)]
  exact DGet.k (k := Sum.inr "rest") h
theorem get_turn (h : H d = some (.dK (dk aw ac r t))) : DGet H d (.str "turn") (some (.int t)) := by
  rw [← dk_turn (aw := aw) (ac := ac) (r := r) (t := t)]
  exact DGet.k (k := Sum.inr "turn") h
theorem set_rest (h : H d = some (.dK (dk aw ac r t))) (u : Int) : DPut H d (.str "rest") (.int u) (upd H d (.dK (dk aw ac u t))) := by
  rw [← put_rest (r := r)]
  exact DPut.k (k := Sum.inr "rest") h (by show 4 < sizeLine; decide)
theorem set_turn (h : H d = some (.dK (dk aw ac r t))) (u : Int) : DPut H d (.str "turn") (.int u) (upd H d (.dK (dk aw ac r u))) := by
  rw [← put_turn (t := t)]
  exact DPut.k (k := Sum.inr "turn") h (by show 4 < sizeLine; decide)
end
/-- all that was tracked but at d, aw is as it was -/
def Keep (d aw : Addr) (H H' : Hp) : Prop := ∀ b o, H b = some o → b ≠ d → b ≠ aw → H' b = some o
theorem Keep.refl (d aw : Addr) (H : Hp) : Keep d aw H H := fun _ _ h _ _ => h
theorem Keep.trans {d aw : Addr} {H H1 H2 : Hp} (a : Keep d aw H H1) (b : Keep d aw H1 H2) : Keep d aw H H2 := fun c o h h1 h2 => b c o (a c o h h1 h2) h1 h2
theorem Same.keep {d aw : Addr} {H H' : Hp} (s : Same H H') : Keep d aw H H' := fun b o h _ _ => s b o h
theorem Keep.new {d aw p : Addr} {H H' : Hp} {o : HO} (k : Keep d aw H H') (h : H' p = none) : Keep d aw H (upd H' p o) := fun b u e h1 h2 => by
  have z := k b u e h1 h2
  rw [upd_ne (ne_of_none z h)]
  exact z
theorem Same.new {p : Addr} {H : Hp} {o : HO} (h : H p = none) : Same H (upd H p o) := fun b u e => by
  rw [upd_ne (ne_of_none e h)]
  exact e
theorem Keep.seqL {K : PySem.W.Frag} {d aw a : Addr} {H H' : Hp} {xs : List V} (k : Keep d aw H H') (h : SqL K H a xs) (h1 : a ≠ d) (h2 : a ≠ aw) : SqL K H' a xs := by
  rcases h with (h | ⟨o, h⟩) | h
  · exact .inl (.inl (k _ _ h h1 h2))
  · exact .inl (.inr ⟨o, k _ _ h h1 h2⟩)
  · exact .inr h
theorem Keep.seqT {K : PySem.W.Frag} {d aw a : Addr} {H H' : Hp} {xs : List V} (k : Keep d aw H H') (h : SqT K H a xs) (h1 : a ≠ d) (h2 : a ≠ aw) : SqT K H' a xs := by
  rcases h with (h | ⟨o, h⟩) | h
  · exact .inl (.inl (k _ _ h h1 h2))
  · exact .inl (.inr ⟨o, k _ _ h h1 h2⟩)
  · exact .inr h
theorem Same.seqT {K : PySem.W.Frag} {a : Addr} {H H' : Hp} {xs : List V} (k : Same H H') (h : SqT K H a xs) : SqT K H' a xs := by
  rcases h with (h | ⟨o, h⟩) | h
  · exact .inl (.inl (k _ _ h))
  · exact .inl (.inr ⟨o, k _ _ h⟩)
  · exact .inr h
/-- the source stands at d, its wide numbers at aw, its cells at ac; it has turned at most n times -/
structure Draw (H : Hp) (d aw ac : Addr) (n : Int) : Prop where
  ne : aw ≠ ac
  ex : ∃ (wide cells : List Int) (rest turn : Int), H d = some (.dK (dk aw ac rest turn)) ∧ H aw = some (.lst (wide.map V.int)) ∧ H ac = some (.lst (cells.map V.int)) ∧
    wide.length ≤ 63 ∧ cells.length ≤ 63 ∧ (∀ x ∈ cells, 0 ≤ x ∧ x < 2147483629) ∧ 0 ≤ turn ∧ turn ≤ n
theorem Draw.mono {H : Hp} {d aw ac : Addr} {n m : Int} (D : Draw H d aw ac n) (h : n ≤ m) : Draw H d aw ac m := by
  obtain ⟨ne, w, c, r, t, h1, h2, h3, h4, h5, h6, h7, h8⟩ := D
  exact ⟨ne, w, c, r, t, h1, h2, h3, h4, h5, h6, h7, by omega⟩
theorem Draw.same {H H' : Hp} {d aw ac : Addr} {n : Int} (D : Draw H d aw ac n) (s : Same H H') : Draw H' d aw ac n := by
  obtain ⟨ne, w, c, r, t, h1, h2, h3, h⟩ := D
  exact ⟨ne, w, c, r, t, s _ _ h1, s _ _ h2, s _ _ h3, h⟩
/-- a tracked thing that is neither the source nor its wide numbers: told by its kind -/
theorem Draw.ned {H : Hp} {d aw ac a : Addr} {n : Int} {o : HO} (D : Draw H d aw ac n) (h : H a = some o) (hk : ∀ kvs, o ≠ .dK kvs) : a ≠ d := by
  obtain ⟨_, w, c, r, t, h1, _⟩ := D
  exact ne_of h h1 (hk _)
theorem Draw.neT {H : Hp} {d aw ac a : Addr} {n : Int} {o : HO} (D : Draw H d aw ac n) (h : H a = some o) (hk : ∀ xs, o ≠ .lst xs) : a ≠ aw := by
  obtain ⟨_, w, c, r, t, _, h2, _⟩ := D
  exact ne_of h h2 (hk _)
end Sa

set_option maxHeartbeats 4000000
/-! Plain facts shared by the laws: heaps, data, errors with fields. -/
namespace Sa
open PySem PySem.Spec PyProof.Rows L2 He NdefX
theorem ifT {A B : Prop} (h : A) : if (true : Bool) = true then A else B := h
theorem ints_canLay : ∀ ns : List Int, PyData.canLayAll0 (ns.map PyData.int) = true
  | [] => rfl
  | _ :: ns => ints_canLay ns
theorem ints_depth : ∀ ns : List Int, PyData.depthAll (ns.map PyData.int) = 0
  | [] => rfl
  | _ :: ns => by
    show max 0 (PyData.depthAll (ns.map PyData.int)) = 0
    rw [ints_depth ns]
    rfl
theorem ints_shaped (ns : List Int) : SeqAt.shaped (.list (ns.map PyData.int)) = true := by
  have h2 : decide (PyData.depthAll (ns.map PyData.int) + 1 ≤ 64) = true := by
    rw [ints_depth]
    rfl
  show (PyData.canLayAll0 (ns.map PyData.int) && decide (PyData.depthAll (ns.map PyData.int) + 1 ≤ 64)) = true
  rw [ints_canLay, h2]
  rfl
theorem ints_dp {K : PySem.W.Frag} {H : Hp} : ∀ ns : List Int, DpAll K H (ns.map V.int) (ns.map PyData.int)
  | [] => .nil
  | _ :: ns => .cons (.int _) (ints_dp ns)
theorem ints_eqv_nil : ∀ ns : List Int, PyData.eqv (.list (ns.map PyData.int)) (.list []) = ns.isEmpty
  | [] => rfl
  | _ :: _ => rfl
theorem Same.rfl {H : Hp} : Same H H := fun _ _ h => h
theorem Same.errAt {H H' : Hp} {a C : Addr} (s : Same H H') (e : ErrAt H a C) : ErrAt H' a C := by
  cases e with
  | plain h => exact .plain (s _ _ h)
  | full h hd => exact .full (s _ _ h) (s _ _ hd)
/-- __init__ of an error with fields: the last one kept stands first -/
def spFld (C : Addr) (fs : List Str) : Sp := fun vs H Q _ => ∃ (a : Addr) (ys : List V), vs = .ref a :: ys ∧ ys.length = fs.length ∧ H a = some (exo a C none) ∧
  ∀ dx H', H dx = none → dx ≠ a → H' a = some (exo a C (some dx)) → H' dx = some (exd dx (fs.zip ys).reverse) → (∀ b, b ≠ a → b ≠ dx → H' b = H b) → Q .non H'
theorem len_spFld {C : Addr} {fs : List Str} {vs : List V} {H : Hp} {Q : VK} {E : XK} (h : spFld C fs vs H Q E) : vs.length = fs.length + 1 := by
  obtain ⟨a, ys, rfl, hl, _⟩ := h
  show ys.length + 1 = _
  rw [hl]
theorem len1 {ys : List V} (h : ys.length = 1) : ∃ a, ys = [a] := match ys, h with | [a], _ => ⟨a, rfl⟩
theorem len3 {ys : List V} (h : ys.length = 3) : ∃ a b c, ys = [a, b, c] := match ys, h with | [a, b, c], _ => ⟨a, b, c, rfl⟩
theorem len2 {ys : List V} (h : ys.length = 2) : ∃ a b, ys = [a, b] := match ys, h with | [a, b], _ => ⟨a, b, rfl⟩
def FldAt (H0 : Hp) (a C dx : Addr) (fs : List (Str × V)) (H : Hp) : Prop := H a = some (exo a C (some dx)) ∧ H dx = some (exd dx fs) ∧ ∀ b, b ≠ a → b ≠ dx → H b = H0 b
theorem fld_new {H : Hp} {a C dx : Addr} {f : Str} {v : V} (n2 : dx ≠ a) : FldAt H a C dx [(f, v)] (upd (upd H dx (exd dx [(f, v)])) a (exo a C (some dx))) :=
  ⟨upd_same, by rw [upd_ne n2, upd_same], fun b b1 b2 => by rw [upd_ne b1, upd_ne b2]⟩
theorem fld_more {H0 H : Hp} {a C dx : Addr} {fs : List (Str × V)} {f : Str} {v : V} (n2 : dx ≠ a) (z : FldAt H0 a C dx fs H) : FldAt H0 a C dx ((f, v) :: fs) (upd H dx (exd dx ((f, v) :: fs))) :=
  ⟨by rw [upd_ne n2.symm]; exact z.1, upd_same, fun b b1 b2 => by rw [upd_ne b2]; exact z.2.2 b b1 b2⟩
structure SupF (P : Program) (w : World) (K : PySem.W.Frag) (mg : Str → Option Value) (base : Heap) (d : SupD) (ps : List Str) (sp : Sp) : Prop where
  ex : ∃ fd, FnOk P w K mg base (L2.CX P w) 1 (d.at_ K) fd ps sp ∧ Binds K fd ps [] ∧ SupK P K (ga K d.cls) (d.nf K) (d.at_ K) fd
/-- the program's file and scope -/
structure Pok (P : Program) : Prop where
  file : P.main.file = theFile
  top : (P.main.scope.names.lookup ("super" : Str)).isSome = false
section
variable {X : Cx} {d : SupD} {sx : Sx} {j : Nat} {ps : List Str} {sp : Sp} {p pos : Pos} {x : Str} {e : Expr} {es : List Expr} {ta : TA}
theorem pe_sup (F : SupF X.prog X.w X.K X.mg X.base d ps sp) (T : Tx sx X.K X.mg) (hr : Room j X.A) (ha : PA X (e :: es) ta) (ex : x = d.cls := by rfl) (hx : x ∈ sx.glos := by decide +kernel) (hj : 2 ≤ j := by decide) (hg : Gl X x := by rfl)
    (hdb : (x == ("__debug__" : Str)) = false := by decide) (he : starEach (e :: es) X.env = (false, eval e X.env) :: starEach es X.env := by rfl) (hpl : (backTo pos (starEach es X.env)).any (·.1) = false := by rfl) :
    PE X (.Call (.Name x p) (e :: es) [] pos) (tNewO (ga X.K d.cls) sp ta) := by
  obtain ⟨fd, F1, hb, S⟩ := F.ex
  subst ex
  exact pe_oex S.oex S.iC S.tI F1 (hr.mono hj) hb passL hg (T.glo d.cls hx) ha hdb he hpl
end
/-- the making: what comes of it -/
theorem new_fld {C : Addr} {fs : List Str} {H : Hp} {Q : VK} {vs : List V} (hl : vs.length = fs.length) (h1 : vs.length ≤ 1000)
    (k : ∀ a dx H', H a = none → Same H H' → H' a = some (exo a C (some dx)) → H' dx = some (exd dx (fs.zip vs).reverse) → Q (.ref a) H') :
    vs.length ≤ 1000 ∧ ∀ a, H a = none → spFld C fs (.ref a :: vs) (upd H a (exo a C none)) (fun v H2 => v = .non ∧ Q (.ref a) H2) (fun _ _ _ => False) := by
  refine ⟨h1, fun a ha => ⟨a, vs, rfl, hl, upd_same, fun dx H' n1 n2 e1 e2 e3 => ⟨rfl, k a dx H' ha (fun b o q => ?_) e1 e2⟩⟩⟩
  have na : b ≠ a := ne_of_none q ha
  rw [upd_ne n2] at n1
  rw [e3 b na (ne_of_none q n1), upd_ne na]
  exact q
theorem Same.seqL {K : PySem.W.Frag} {a : Addr} {H H' : Hp} {xs : List V} (k : Same H H') (h : SqL K H a xs) : SqL K H' a xs := by
  rcases h with (h | ⟨o, h⟩) | h
  · exact .inl (.inl (k _ _ h))
  · exact .inl (.inr ⟨o, k _ _ h⟩)
  · exact .inr h
theorem Same.rdk {a : Addr} {H H' : Hp} {u : HO} (k : Same H H') (h : Rd H a u) : Rd H' a u := by
  rcases h with h | ⟨o, h⟩
  · exact .inl (k _ _ h)
  · exact .inr ⟨o, k _ _ h⟩
theorem Same.seqD {K : PySem.W.Frag} {a : Addr} {H H' : Hp} {xs : List V} (k : Same H H') (h : SqD K H a xs) : SqD K H' a xs := by
  rcases h with ⟨o, h, d⟩ | h
  · exact .inl ⟨o, k _ _ h, d⟩
  · exact .inr h
section
variable {K : PySem.W.Frag} {H H' : Hp}
mutual
theorem Dq.same (s : Same H H') : ∀ (d : PyData) (v : V), Dq K H v d → Dq K H' v d
  | .none, _, h => by
    cases h
    exact .non
  | .bool b, _, h => by
    cases h
    exact .bl _
  | .int i, _, h => by
    cases h
    exact .int _
  | .str x, _, h => by
    cases h
    exact .str _
  | .list ds, _, h => by
    cases h with
    | lst hs ha => exact .lst (Same.seqL s hs) (Dq.sameAll s ds _ ha)
  | .tuple ds, _, h => by
    cases h with
    | tup hs ha => exact .tup (Same.seqD s hs) (Dq.sameAll s ds _ ha)
  | .dict ds, _, h => by
    cases h with
    | dct hs hk => exact .dct (Same.rdk s hs) (Dq.sameKv s ds _ hk)
theorem Dq.sameAll (s : Same H H') : ∀ (ds : List PyData) (vs : List V), DqAll K H vs ds → DqAll K H' vs ds
  | [], _, h => by
    cases h
    exact .nil
  | d :: ds, _, h => by
    cases h with
    | cons h1 h2 => exact .cons (Dq.same s d _ h1) (Dq.sameAll s ds _ h2)
theorem Dq.sameKv (s : Same H H') : ∀ (ds : List (PyData × PyData)) (kvs : List (Key × V)), DqKv K H kvs ds → DqKv K H' kvs ds
  | [], _, h => by
    cases h
    exact .nil
  | (dk, d) :: ds, _, h => by
    cases h with
    | cons h1 h2 => exact .cons (Dq.same s d _ h1) (Dq.sameKv s ds _ h2)
end
end
/-- repr may be asked of it -/
def okD (d : PyData) : Bool := d.showable && (decide (d.depth < 60) && decide (d.shown.length ≤ sizeLine))
theorem del_sub {H : Hp} {p : Addr} : Same (del H p) H := fun b o e => by
  by_cases h : b = p
  · rw [h, del_same] at e
    cases e
  · rw [del_ne h] at e
    exact e
theorem del_mono {H H' : Hp} {p : Addr} (s : Same H H') : Same (del H p) (del H' p) := fun b o e => by
  by_cases h : b = p
  · rw [h, del_same] at e
    cases e
  · rw [del_ne h] at e ⊢
    exact s b o e
theorem del_upd {H : Hp} {p : Addr} {o : HO} : del (upd H p o) p = del H p := by
  funext b
  by_cases h : b = p
  · rw [h, del_same, del_same]
  · rw [del_ne h, del_ne h, upd_ne h]
theorem take_snoc {α : Type} {l : List α} {i : Nat} {x : α} (h : l[i]? = some x) : l.take (i + 1) = l.take i ++ [x] := by
  rw [List.take_succ, h]
  rfl
theorem same_del {H : Hp} {D : Addr} {o : HO} (n : H D = none) : Same H (del (upd H D o) D) := fun b u e => by
  rw [del_ne (ne_of_none e n), upd_ne (ne_of_none e n)]
  exact e
theorem map_get {α β : Type} {f : α → β} {l : List α} {i : Nat} {y : β} (h : (l.map f)[i]? = some y) : ∃ x, l[i]? = some x ∧ f x = y := by
  rw [List.getElem?_map] at h
  cases q : l[i]? with
  | none =>
    rw [q] at h
    cases h
  | some x =>
    rw [q] at h
    exact ⟨x, rfl, Option.some.inj h⟩
/-- all but the source of draws -/
def dd (d aw : Addr) (H : Hp) : Hp := del (del H d) aw
theorem dd_sub {d aw : Addr} {H : Hp} : Same (dd d aw H) H := Same.trans del_sub del_sub
theorem dd_ne {d aw b : Addr} {H : Hp} (h1 : b ≠ d) (h2 : b ≠ aw) : dd d aw H b = H b := by
  unfold dd
  rw [del_ne h2, del_ne h1]
theorem dd_keep {d aw : Addr} {H H' : Hp} (k : Keep d aw H H') : Same (dd d aw H) (dd d aw H') := fun b o e => by
  by_cases h2 : b = aw
  · unfold dd at e
    rw [h2, del_same] at e
    cases e
  · by_cases h1 : b = d
    · unfold dd at e
      rw [del_ne h2, h1, del_same] at e
      cases e
    · rw [dd_ne h1 h2] at e ⊢
      exact k b o e h1 h2
end Sa

set_option maxHeartbeats 4000000
/-! A caught error kept as a value behind its except clause. -/
namespace Sa
open PySem PySem.Spec PyProof.Rows L2
/-- an error that was raised and caught, at a: its class, its dict -/
def ErV (cls : Value) (d : Option Addr) (a : Addr) : HO := .ext fun h => ∃ (oe : Obj) (vs : Array Value), h.get? a = some oe ∧ Zc cls d oe ∧ oe.data = .fields vs
theorem erV_ok {P : Program} {w : World} {H : Hp} {h : Heap} {a : Addr} {cls : Value} {d : Option Addr} {oe : Obj} {vs : Array Value} (e : h.get? a = some oe) (z : Zc cls d oe) (dd : oe.data = .fields vs) : ObjOk P w H h a (ErV cls d a) :=
  ⟨⟨oe, vs, e, z, dd⟩, ⟨oe, e⟩, fun _ _ ⟨o, v, q, r⟩ k => ⟨o, v, k o q, r⟩⟩
section
variable {X : Cx} {pins : List (Addr × Obj)} {σ : L2.St} {H : Hp} {s : Shared}
/-- an object that stands there, new behind the def's beginning, is tracked from now on -/
theorem inv_track {a : Addr} {oe : Obj} {vs : Array Value} {cls : Value} {d : Option Addr} (I : Inv X pins σ H s) (he : s.heap.get? a = some oe) (hz : Zc cls d oe) (hd : oe.data = .fields vs) (h0 : X.s_0.heap.get? a = none) (hn : H a = none)
    (hp : ∀ p ∈ X.pn ++ pins, p.1 ≠ a) : Inv X pins σ (upd H a (ErV cls d a)) s := by
  have nL : X.env.locals ≠ a := fun z => by
    obtain ⟨m, ⟨o, es, ep, e1, e2, _⟩, _⟩ := I.loc
    rw [z, he] at e1
    cases e1
    rw [hd] at e2
    cases e2
  have nC : ∀ x c, X.env.cells.lookup x = some c → c ≠ a := fun x c e z => by
    obtain ⟨v, o, e1, e2⟩ := I.cell x c e
    rw [z, he] at e1
    cases e1
    rw [hd] at e2
    cases e2
  refine ⟨I.ok, I.os, I.bare, ⟨I.base.keep, I.base.slot, fun b o e n hx => ?_, I.base.there, fun b xs e => ?_, fun b o u e => ?_, fun b ps e => ?_⟩, I.loc, I.cell, by rw [upd_ne nL]; exact I.free, fun x c e => by rw [upd_ne (nC x c e)]; exact I.freeC x c e, fun p hm => ?_, ?_, I.len⟩
  · have nb : b ≠ a := fun z => by
      rw [z, h0] at e
      cases e
    rw [upd_ne nb]
    exact I.base.free b o e n hx
  · have q := I.base.tups b xs e
    rw [upd_ne (ne_of_none q hn)]
    exact q
  · have q := I.base.frzs b o u e
    rw [upd_ne (ne_of_none q hn)]
    exact q
  · obtain ⟨more, q⟩ := I.base.tbls b ps e
    exact ⟨more, by rw [upd_ne (ne_of_none q hn)]; exact q⟩
  · obtain ⟨q1, q2, q3, q4, q5⟩ := I.pin p hm
    exact ⟨q1, by rw [upd_ne (hp p hm)]; exact q2, q3, q4, q5⟩
  · exact I.hok.laidN (fun _ _ z => z) hn (erV_ok he hz hd)
end
/-- the wish of try .. except X as n, the error being kept -/
def wAsV (K : PySem.W.Frag) (c : Value) (i : Nat) (ts : Addr → Value → Option Addr → TS) (Wout : WX) (D : Ends) : WX := fun cls d σ H =>
  ∃ b, PySem.W.exmOne K cls c = some b ∧ (b = true → ∀ a, H a = none → ts a cls d { nx := fun σ' H' => H' a = none → D.nx (σ'.set i none) (upd H' a (ErV cls d a)), rt := D.rt, bk := fun σ' H' => D.bk (σ'.set i none) H', ct := fun σ' H' => D.ct (σ'.set i none) H' } (σ.set i (some (.ref a))) H) ∧
    (b = false → Wout cls d σ H)
section
variable {X : Cx} {x n : Str} {c : Value} {i : Nat} {body suite : List Stmt} {b₀ : Stmt} {np pos pos' : Pos} {tb : WX → TS} {ts : Addr → Value → Option Addr → TS} {Wout : WX}
theorem ps_try_asV (hs : X.stack = X.env :: X.outer) (hf : X.env.frame = some X.env.locals) (hN : X.N.Nodup) (hi : X.N[i]? = some n) (hln : X.env.kindOf n = some .local) (hex : X.ex = []) (hc : Names X x c) (tk : Takes X Wout)
    (hb : ∀ (W : WX) (pn : List (Addr × Obj)) (xe : Value → Shared → Prop), Takes (X.tr pn xe) W → PassesOwn (model X.prog X.w) X.A X.env xe → PSs (X.tr pn xe) body (tb W))
    (hsu : ∀ (a : Addr) (oe : Obj) (cls : Value) (d : Option Addr) (pn : List (Addr × Obj)), Zc cls d oe → (∃ vs, oe.data = .fields vs) → PSs (X.suite a ((a, oe) :: pn)) (b₀ :: suite) (ts a cls d)) :
    PS X (.Try body [.ExceptHandler (some (.Name x np)) (some n) (b₀ :: suite) pos'] [] [] pos) (fun D σ H => tb (wAsV X.K c i ts Wout D) D σ H) := by
  constructor
  intro pins s0 σ0 H0 D I0 h0
  have okX := I0.ok
  have stk : X.A.frames = some (X.env :: X.outer) := okX.frames.trans (congrArg some hs)
  have lcl : Loc X.env.scope n := .inl hln
  apply wpAny_Try_except
  let Wt : WX := wAsV X.K c i ts Wout D
  let up_ : Value → Shared → Prop := fun e q1 => wpAny (model X.prog X.w) X.A (noteFrame e X.env) (fun _ q2 => wpAny (model X.prog X.w) X.A (setFlight e none) (fun _ q3 => wpAny (model X.prog X.w) X.A (handleBy e X.env [.ExceptHandler (some (.Name x np)) (some n) (b₀ :: suite) pos']) (SP X pins D) X.xe q3) X.xe q2) X.xe q1
  have catch_ : Takes (X.tr (X.pn ++ pins) up_) Wt := by
    rintro u q ⟨a, B, sJ, pJ, σJ, HJ, cls, d, rfl, Jt, base, ups, skyT, na, os, ag, b, eb, yes, no⟩
    have J : Inv X pins σJ HJ sJ := Jt.ofTry okX
    have skyX : Sky B (X.env :: X.outer) a (Zc cls d) X.env.locals q.heap := hs ▸ skyT
    refine Sky.land Zc.steady stk hf skyX fun g3 fly3 up3 => ?_
    have In3 : Inv X pins σJ HJ { q with heap := g3 } := J.landed base fly3.1 (ups.trans up3) os ag
    obtain ⟨o3, w3, a3, z3, f3⟩ := fly3.there
    have noFr : a ∉ frs (X.env :: X.outer) := fun m => by
      obtain ⟨_, o', e', nf⟩ := fly3.2.2.1.mem m
      rw [a3] at e'
      cases e'
      exact nf _ f3
    have aL : a ≠ X.env.locals := fun z => noFr (List.mem_filterMap.mpr ⟨X.env, List.mem_cons_self, by rw [hf, z]⟩)
    have aF : a ∉ X.fs := fun m => by
      obtain ⟨e, he, r⟩ := List.mem_filterMap.mp m
      exact noFr (List.mem_filterMap.mpr ⟨e, List.mem_cons_of_mem _ he, r⟩)
    have newJ : sJ.heap.get? a = none := by
      cases r : sJ.heap.get? a with
      | none => rfl
      | some o =>
        have z := base a o r (hs ▸ noFr)
        rw [fly3.2.1] at z
        cases z
    have new0 : X.s_0.heap.get? a = none := by
      cases r : X.s_0.heap.get? a with
      | none => rfl
      | some o =>
        obtain ⟨o', z⟩ := J.base.there a o r (by rw [hex]; exact List.not_mem_nil)
        rw [newJ] at z
        cases z
    have noPin : ∀ p ∈ X.pn ++ pins, p.1 ≠ a := fun p m z => by
      have r := (J.pin p m).1
      rw [z, newJ] at r
      cases r
    have Su3 := In3.suite a3 f3 na aL aF
    refine wpAny_handleBy_cons (codeAny_handlers_test ?_) (fun z => by cases z)
    have ask : ∀ {Q E : Value → Shared → Prop}, Q c { q with heap := g3 } → wpAny (model X.prog X.w) (X.A.mark (some (.ref a))) (eval (.Name x np) X.env) Q E { q with heap := g3 } := fun {Q E} r => by
      obtain ⟨h1, h2, h3 | ⟨h3, h4, h5⟩⟩ := hc
      · exact ld_glob (X := X.suite a ((a, o3) :: (X.pn ++ pins))) Su3 h1 h3 r h2
      · exact ld_blt (X := X.suite a ((a, o3) :: (X.pn ++ pins))) Su3 h1 h3 h4 r h5 h2
    have tells := PySem.W.exm_one (M := model X.prog X.w) In3.kIn (fun A Q E t k r => wpAny_typeOf_ref (k _ _ a3) (by rw [z3.1]; exact r)) eb
    refine ask (tells.here ?_)
    cases b with
    | true =>
      refine codeAny_handlers_suite_as (HandSPX.lands_againZ fly3 fun g4 fly4 up4 => ?_)
      obtain ⟨o4, w4, a4, z4, f4⟩ := fly4.there
      have In4 : Inv X pins σJ HJ { q with heap := g4 } := J.landed base fly4.1 ((ups.trans up3).trans up4) os ag
      refine store_ok (X := X.suite a ((a, o4) :: (X.pn ++ pins))) (v := .ref a) (In4.suite a4 f4 na aL aF) hN hi lcl rfl (fun s5 Su5 => ?_) (.inr hln)
      refine wpAny_mono ((hsu a o4 cls d (X.pn ++ pins) z4 ⟨_, f4⟩).run [] s5 _ HJ _ Su5 (yes rfl a na)) (fun fl s6 r6 => ?_) (fun _ _ z => z.elim)
      have gone : ∀ {σ6 : L2.St} {H6 : Hp} {Q : Shared → Prop}, Inv (X.suite a ((a, o4) :: (X.pn ++ pins))) [] σ6 H6 s6 → (∀ s7, Inv X ((a, o4) :: pins) (σ6.set i none) H6 s7 → Q s7) →
          wpAny (model X.prog X.w) X.A (do bindName X.env n .none; unbindBehindTheSuite X.env n pos') (fun _ s7 => Q s7) X.xe s6 := fun {σ6 H6 Q} Su6 k => by
        have pa := Su6.pin (a, o4) (List.mem_append_left _ List.mem_cons_self)
        refine gone_ok ((Su6.unsuite okX).pins_of (pins' := (a, o4) :: pins) fun p m => ?_) hN hi hln k
        rcases List.mem_cons.mp m with e | m
        · rw [e]
          exact pa
        · exact (Su6.unsuite okX).pin p (List.mem_append_right _ m)
      have less : ∀ {σ6 : L2.St} {H6 : Hp} {s7 : Shared}, Inv X ((a, o4) :: pins) σ6 H6 s7 → Inv X pins σ6 H6 s7 := fun J7 => J7.pins_of fun p m => J7.pin p (List.mem_append_right _ (List.mem_cons_of_mem _ m))
      cases fl with
      | next =>
        obtain ⟨σ6, H6, Su6, r6⟩ := r6
        refine gone Su6 fun s7 J7 => ?_
        obtain ⟨p1, p2, _⟩ := J7.pin (a, o4) (List.mem_append_right _ List.mem_cons_self)
        exact ⟨_, _, inv_track (less J7) p1 z4 f4 new0 p2 noPin, r6 p2⟩
      | brk =>
        obtain ⟨σ6, H6, Su6, r6⟩ := r6
        exact gone Su6 fun s7 J7 => ⟨_, _, less J7, r6⟩
      | cont =>
        obtain ⟨σ6, H6, Su6, r6⟩ := r6
        exact gone Su6 fun s7 J7 => ⟨_, _, less J7, r6⟩
      | ret u =>
        obtain ⟨v6, σ6, H6, Su6, rv6, r6⟩ := r6
        exact gone Su6 fun s7 J7 => ⟨_, _, _, less J7, rv6, r6⟩
    | false =>
      show wpAny _ X.A (handleBy (.ref a) X.env []) _ _ _
      apply wpAny_handleBy_nil
      obtain ⟨_, _, _, oe, vs, T, oT, ts', he, _, hd, h1, _⟩ := id fly3
      unfold PySem.passOn
      refine wpAny_bind (wpAny_field he hd h1 ?_)
      rw [if_neg (show ¬ ((Value.ref T == Value.none) = true) by simp)]
      have out : wpAny (model X.prog X.w) X.A (setFlight (.ref a) X.env.frame) (fun _ s4 => wpAny (model X.prog X.w) X.A (throw (.ref a) : Sem Flow) (SP X pins D) X.xe s4) X.xe { q with heap := g3 } := by
        rw [hf]
        refine HandSPX.setFlight_upZ fly3 fun g4 held4 up4 => wpAny_throw (tk _ _ ⟨a, B, sJ, pins, σJ, HJ, cls, d, rfl, J, base, (ups.trans up3).trans up4, .inr (.inr (by rw [hs]; exact held4)), na, os, ag, no rfl⟩)
      first
        | exact wpAny_bind (wpAny_pure (wpAny_bind out))
        | exact wpAny_bind out
  refine wpAny_mono ((hb Wt (X.pn ++ pins) up_ catch_ PassesOwn.looking).run [] s0 σ0 H0 D (I0.toTry _) h0) (fun fl s1 r => ?_) (fun e s1 r => r)
  cases fl with
  | next =>
    obtain ⟨σ1, H1, J1, r⟩ := r
    exact wpAny_execs_nil ⟨σ1, H1, J1.ofTry okX, r⟩
  | brk =>
    obtain ⟨σ1, H1, J1, r⟩ := r
    exact ⟨σ1, H1, J1.ofTry okX, r⟩
  | cont =>
    obtain ⟨σ1, H1, J1, r⟩ := r
    exact ⟨σ1, H1, J1.ofTry okX, r⟩
  | ret u =>
    obtain ⟨v, σ1, H1, J1, rv, r⟩ := r
    exact ⟨v, σ1, H1, J1.ofTry okX, rv, r⟩
end
end Sa

set_option maxHeartbeats 4000000
namespace Sa
open PySem PySem.Spec PyProof.Rows L2
/-- an error of the class C at a: made, or caught -/
inductive ErX (H : Hp) (a C : Addr) : Prop where
  | made (h : ErrAt H a C)
  | bare (h : H a = some (ErV (.ref C) none a))
  | told {dx : Addr} {fs : List (Str × V)} (h : H a = some (ErV (.ref C) (some dx) a)) (hd : H dx = some (.xd fs))
theorem ErX.same {H H' : Hp} {a C : Addr} (s : Same H H') (e : ErX H a C) : ErX H' a C := by
  cases e with
  | made h => exact .made (Same.errAt s h)
  | bare h => exact .bare (s _ _ h)
  | told h hd => exact .told (s _ _ h) (s _ _ hd)
section
variable {X : Cx} {pins : List (Addr × Obj)} {σ : L2.St} {H : Hp} {s : Shared} {a C dx : Addr} {fs : List (Str × V)} {cls : Value} {d : Option Addr}
theorem erV_at (I : Inv X pins σ H s) (h : H a = some (ErV cls d a)) : ∃ (oe : Obj) (vs : Array Value), s.heap.get? a = some oe ∧ Zc cls d oe ∧ oe.data = .fields vs := (I.hok a _ h).1
theorem ErX.inst (I : Inv X pins σ H s) (e : ErX H a C) : ∃ ox od, PySem.W.InstAt s.heap a ox C od := by
  cases e with
  | made h => exact h.inst I
  | bare h =>
    obtain ⟨oe, vs, he, hz, hd⟩ := erV_at I h
    refine ⟨oe, none, he, hz.1, by unfold PySem.W.notCls; rw [hd] <;> rfl, ?_⟩
    rw [hz.2] <;> trivial
  | told h hx =>
    obtain ⟨oe, vs, he, hz, hd⟩ := erV_at I h
    obtain ⟨mA, ⟨od, es, ep, ho, _⟩, _⟩ := (I.hok _ _ hx)
    refine ⟨oe, some od, he, hz.1, by unfold PySem.W.notCls; rw [hd] <;> rfl, ?_⟩
    rw [hz.2]
    exact ho
/-- isinstance(x, c), x an error -/
def rIsE2 (K : PySem.W.Frag) : List V → Hp → VK → Prop := fun xs H Q => ∃ (a C : Addr) (c : V) (cv : Value) (b : Bool), xs = [.ref a, c] ∧ ErX H a C ∧ ExcC K C ∧ (∀ u, RelV c u → u = cv) ∧ PySem.W.kitOne K (.ref C) cv = some b ∧ Q (.bl b) H
theorem call_isE2 : CallR X (.builtin "isinstance") (rIsE2 X.K) := by
  intro pins s σ H xs us Q I r h
  obtain ⟨a, C, c, cv, b, rfl, ea, T, hcv, e, q⟩ := h
  cases r with
  | cons rx rr =>
    cases rr with
    | cons rt rr =>
      cases rr
      cases rx
      have ec := hcv _ rt
      subst ec
      obtain ⟨ox, od, J⟩ := ea.inst I
      have hcl : (PySem.W.clsIn X.K C).isSome = true := by
        obtain ⟨cd, hc, _⟩ := PySem.W.any_some T.hd
        rw [hc] <;> rfl
      exact PySem.W.kia_one (PySem.W.kitx_exc (ox := ox) (od := od) hcl T.hg T.hk T.hs T.ha T.hn T.ht T.hm) I.kIn J e (fun z => nomatch z) fun tk => ⟨.bl b, H, I.kept (t' := tk) fun _ _ z => z, rfl, q⟩
/-- .. or of another value -/
theorem call_isAny : CallR X (.builtin "isinstance") (fun xs H Q => rIsE2 X.K xs H Q ∨ rIsi X.K xs H Q) := fun pins s σ H xs us Q I r h => h.elim (call_isE2 pins s σ H xs us Q I r) (call_isi pins s σ H xs us Q I r)
end
/-- x.f, x a caught error with its fields told -/
def tXcat (K : PySem.W.Frag) (f : Str) (te : TE) : TE := fun σ H Q => te σ H fun x H1 => ∃ (a C dx : Addr) (fs : List (Str × V)) (v : V), x = .ref a ∧ H1 a = some (ErV (.ref C) (some dx) a) ∧ H1 dx = some (.xd fs) ∧ XfC K C ∧ PySem.W.findIn K (.ref C) f = some none ∧ fs.lookup f = some v ∧ Q v H1
theorem pe_xcat {X : Cx} {e : Expr} {te : TE} {pos : Pos} {f : Str} (he : PE X e te) (hb : attributeBase e f X.env (eval e X.env) = eval e X.env := by rfl) : PE X (.Attribute e f pos) (tXcat X.K f te) := by
  refine ⟨fun pins s σ H Q I h => ?_⟩
  refine attr_of hb (thn (he.run pins s σ H _ I h) fun u s1 hh => ?_)
  obtain ⟨x, H1, I1, rx, a, C, dx, fs, v, ex, ea, ed, T, hno, l, q⟩ := hh
  subst ex
  obtain rfl : u = Value.ref a := rx
  obtain ⟨oe, vs, he1, hz, hd⟩ := erV_at I1 ea
  obtain ⟨mA, hns, hr⟩ := I1.hok _ _ ed
  obtain ⟨od, hod, hl⟩ := lookIn_ns hns
  obtain ⟨u, hu, ru⟩ := RelO.some_of (v := v) (o := mA f) (by rw [← l]; exact hr f)
  have J : PySem.W.InstAt s1.heap a oe C (some od) := ⟨he1, hz.1, by unfold PySem.W.notCls; rw [hd] <;> rfl, by rw [hz.2]; exact hod⟩
  exact HandSPX.exc_get I1.kIn J T.ga T.gg T.exC (PySem.W.findObj_own T.hdC hno rfl (by rw [hl, hu])) (handed_of ru) ⟨v, H1, I1.tok _, ru, q⟩
end Sa

set_option maxHeartbeats 4000000
/-! Two lists in step; raising an error with fields. -/
namespace Sa
open PySem PySem.Spec PyProof.Rows L2 He NdefX
inductive Al {β : Type} (R : Addr → β → Prop) : List Addr → List β → Prop
  | nil : Al R [] []
  | cons {a : Addr} {b : β} {as : List Addr} {bs : List β} : R a b → Al R as bs → Al R (a :: as) (b :: bs)
section
variable {β : Type} {R R' : Addr → β → Prop}
theorem Al.mono (f : ∀ a b, R a b → R' a b) : ∀ {as : List Addr} {bs : List β}, Al R as bs → Al R' as bs
  | _, _, .nil => .nil
  | _, _, .cons h r => .cons (f _ _ h) (Al.mono f r)
theorem Al.append : ∀ {as as' : List Addr} {bs bs' : List β}, Al R as bs → Al R as' bs' → Al R (as ++ as') (bs ++ bs')
  | _, _, _, _, .nil, r => r
  | _, _, _, _, .cons h q, r => .cons h (Al.append q r)
theorem Al.snoc {as : List Addr} {bs : List β} {a : Addr} {b : β} (h : Al R as bs) (r : R a b) : Al R (as ++ [a]) (bs ++ [b]) := h.append (.cons r .nil)
theorem Al.length : ∀ {as : List Addr} {bs : List β}, Al R as bs → as.length = bs.length
  | _, _, .nil => rfl
  | _, _, .cons _ r => by simp [Al.length r]
theorem Al.get : ∀ {as : List Addr} {bs : List β}, Al R as bs → ∀ (i : Nat) (a : Addr), as[i]? = some a → ∃ b, bs[i]? = some b ∧ R a b
  | _, _, .nil, i, a, h => by simp at h
  | _, _, .cons (a := b) (b := c) h r, 0, a, e => by
    have z : b = a := Option.some.inj e
    exact ⟨c, rfl, by rw [← z]; exact h⟩
  | _, _, .cons h r, i + 1, a, e => by
    rw [List.getElem?_cons_succ] at e ⊢
    exact Al.get r i a e
theorem Al.last {as : List Addr} : ∀ {bs : List β} {b : β}, Al R as (bs ++ [b]) → ∃ as' a, as = as' ++ [a] ∧ Al R as' bs ∧ R a b := by
  induction as with
  | nil =>
    intro bs b h
    cases bs <;> cases h
  | cons x as ih =>
    intro bs b h
    cases bs with
    | nil =>
      cases h with
      | cons h1 h2 =>
        cases h2
        exact ⟨[], x, rfl, .nil, h1⟩
    | cons y bs =>
      cases h with
      | cons h1 h2 =>
        obtain ⟨as', a, e, q1, q2⟩ := ih h2
        exact ⟨x :: as', a, by rw [e]; rfl, .cons h1 q1, q2⟩
end
section
variable {X : Cx} {d : SupD} {sx : Sx} {j : Nat} {ps : List Str} {sp : Sp} {p pos : Pos} {x : Str} {e : Expr} {es : List Expr} {ta : TA}
/-- raise C(..), C's own __init__ by super().__init__ -/
theorem pmk_sup (F : SupF X.prog X.w X.K X.mg X.base d ps sp) (T : Tx sx X.K X.mg) (hr : Room j X.A) (ha : PA X (e :: es) ta) (ex : x = d.cls := by rfl) (hx : x ∈ sx.glos := by decide +kernel) (hj : 2 ≤ j := by decide) (hg : Gl X x := by rfl)
    (hdb : (x == ("__debug__" : Str)) = false := by decide) (he : starEach (e :: es) X.env = (false, eval e X.env) :: starEach es X.env := by rfl) (hpl : (backTo pos (starEach es X.env)).any (·.1) = false := by rfl) :
    PMk X (.Call (.Name x p) (e :: es) [] pos) (tMkO (ga X.K d.cls) sp [] ta) := by
  obtain ⟨fd, F1, hb, S⟩ := F.ex
  subst ex
  exact pmk_oex S.oex S.iC S.tI F1 (hr.mono hj) hb .nil passL hg (T.glo d.cls hx) ha hdb he hpl
/-- what comes of it -/
theorem mk_fld {C : Addr} {fs : List Str} {H : Hp} {Q : XK} {vs : List V} (hl : vs.length = fs.length) (h1 : vs.length ≤ 1000)
    (k : ∀ dx H', H dx = none → Same H H' → H' dx = some (.xd (fs.zip vs).reverse) → Q (.ref C) (some dx) H') :
    vs.length ≤ 1000 ∧ ∀ a, H a = none → spFld C fs (.ref a :: (vs ++ [])) (upd H a (exo a C none))
      (fun v H2 => v = .non ∧ ∃ (d : Addr) (fs : List (Str × V)), H2 a = some (exo a C (some d)) ∧ H2 d = some (exd d fs) ∧ H d = none ∧ Q (.ref C) (some d) (upd (del H2 a) d (.xd fs))) (fun _ _ _ => False) := by
  refine ⟨h1, fun a ha => ⟨a, vs, by rw [List.append_nil], hl, upd_same, fun dx H' n1 n2 e1 e2 e3 => ⟨rfl, dx, _, e1, e2, ?_, ?_⟩⟩⟩
  · rw [upd_ne n2] at n1
    exact n1
  · rw [upd_ne n2] at n1
    refine k dx _ n1 (fun b o q => ?_) upd_same
    have na : b ≠ a := ne_of_none q ha
    have nd : b ≠ dx := ne_of_none q n1
    rw [upd_ne nd, del_ne na, e3 b na nd, upd_ne na]
    exact q
end
end Sa

set_option maxHeartbeats 4000000
/-! f(k = v, ..) with keywords alone; text * int. -/
namespace Sa
open PySem PySem.Spec PyProof.Rows L2 He
/-- a def that is called by keywords alone, named ks; gV puts their values in the parameters' order -/
structure CalK (P : Program) (w : World) (K : PySem.W.Frag) (mg : Str → Option Value) (base : Heap) (x : Str) (k : Nat) (ps ks : List Str) (gV : List V → List V → List V) (sp : Sp) : Prop where
  ok : ∃ fd g, FnOk P w K mg base (L2.CX P w) k (ga K x) fd ps sp ∧ KBn K fd ps 0 ks g gV
  kp : PySem.W.keepIn K (.ref (ga K x)) = true
  at_ : mg x = some (.ref (ga K x))
theorem Cal.key {P : Program} {w : World} {K : PySem.W.Frag} {mg : Str → Option Value} {base : Heap} {x : Str} {k : Nat} {ps ks : List Str} {sp : Sp} {sx : Sx} {st : Stmt} (C : Cal P w K mg base x k ps sp) (T : Tx sx K mg) (i : Nat) (hd : sx.defs[i]? = some (mkD x st)) (g : {α : Type} → List α → List α → List α)
    (h : ∀ (kV doc pm : Value) (an : Option Addr) (cdv ct : Value) (ws : List Value), ws.length = ks.length → bindArgs (PySem.W.fnOf x x (defArgs st) (defBody st) (defScope st) .none kV doc pm an cdv ct) ⟨[], ks.zip ws⟩ = pure (ps.zip (g [] ws)))
    (hr : ∀ {vs : List V} {us : List Value} {zs : List V} {ws : List Value}, Vals vs us → Vals zs ws → Vals (g vs zs) (g us ws)) : CalK P w K mg base x k ps ks g sp := by
  obtain ⟨fd, F, b, oc, od, osl, lk⟩ := C.ok
  obtain ⟨fd2, F2⟩ := T.def_ i hd
  obtain ⟨oc2, od2, dV, kV, doc, pm, an, cdv, ct, osl2, e, lk2, _, hD, _⟩ := F2.ex
  have efd : fd = fd2 := by
    rw [lk] at lk2
    cases lk2
    rfl
  have edV : dV = .none := by
    rcases hD with ⟨_, z⟩ | ⟨z, _⟩
    · exact z
    · exact absurd rfl z
  rw [edV] at e
  refine ⟨⟨fd, g, F, ⟨fun s us ws X l1 l2 => ?_, hr⟩⟩, C.kp, C.at_⟩
  have u0 : us = [] := List.length_eq_zero_iff.mp l1
  rw [u0, efd, e]
  exact .of_eq (h kV doc pm an cdv ct ws l2)
section
variable {X : Cx} {k j : Nat} {ps ks : List Str} {sp : Sp} {x : Str} {p pos : Pos} {kws : List Keyword} {tk : TA} {gV : List V → List V → List V}
/-- f(k = v, ..) -/
theorem pe_calK (C : CalK X.prog X.w X.K X.mg X.base x k ps ks gV sp) (hr : Room j X.A) (hkw : PK X kws tk) (hj : k ≤ j := by decide) (hg : Gl X x := by rfl)
    (hall : (backToKw pos (keywordEach kws X.env)).all (·.1.isSome) = true := by rfl) (hks : (backToKw pos (keywordEach kws X.env)).filterMap (·.1) = ks := by rfl) (hdb : (x == ("__debug__" : Str)) = false := by decide)
    (hpl : ((backTo pos (starEach [] X.env)).any (·.1) || (backToKw pos (keywordEach kws X.env)).any (·.1.isNone)) = false := by rfl) : PE X (.Call (.Name x p) [] kws pos) (tCallN 0 ks.length sp gV E0 tNil tk) := by
  obtain ⟨fd, g, F, b⟩ := C.ok
  refine ⟨fun pins s σ H Q I h => ?_⟩
  refine wpAny_Call_Name_kw (ld_glob I hg C.at_ ?_ hdb)
  refine PySem.W.callWith_KW0 (h₀ := X.base) I.ok.mod.kin C.kp hall ?_ hpl
  refine thn (hkw.run pos pins s σ H _ I h) fun ws s2 ⟨zs, H2, I2, rz, l1, l2, q2⟩ => ⟨I2.kIn, ?_⟩
  rw [hks]
  exact run_fnN (us := []) (vs := []) F (hr.mono hj) b passL I2 .nil rz rfl l2 q2
/-- .. in a try -/
theorem op_mul_str : OpR X (binaryOp .Mult) (fun x y H Q => ∃ (z : Str) (n : Int), x = .str z ∧ y = .int n ∧ MulOk z n ∧ Q (.str (Txt.mul z n)) H) := by
  intro pins s σ H x y v u Q I rx ry h
  obtain ⟨z, n, rfl, rfl, ok, q⟩ := h
  obtain ⟨t, rfl⟩ := rx
  obtain ⟨t', rfl⟩ := ry
  exact SB.mul ok fun t2 k2 => ⟨.str (Txt.mul z n), H, I.tok k2, ⟨_, rfl⟩, q⟩
end
end Sa

set_option maxHeartbeats 4000000
/-! for i, c in enumerate(text). -/
namespace Sa
open PySem PySem.Spec PyProof.Rows L2
def Ites (x : Str) : It := ⟨fun i _ => i < x.cps.size, fun i H v H' => ∃ T c, v = .ref T ∧ H T = none ∧ H' = upd H T (.tup [.int (i : Nat), .str ⟨#[c]⟩]) ∧ x.cps[i]? = some c, fun i _ => i = x.cps.size⟩
theorem turn_enumS {P : Program} {w : World} {K : PySem.W.Frag} {elts : List Expr} {kk : Nat} {tpos : Pos} (e it : Addr) (x : Str) (t : Tok) :
    Turn P w K (.Tuple elts kk tpos) (Ites x) [e, it] e (fun i h => (∃ old, IsEnum h e it ((i : Nat) : Int) old) ∧ h.IsStrIter it (strIterType x) x t i ∧ e ≠ it) where
  mem := by simp
  obj := by
    rintro i h ⟨⟨old, he⟩, ⟨o, ho, hc, hd⟩, _⟩ b hb
    rcases (show b = e ∨ b = it by simpa using hb) with z | z <;> rw [z]
    · exact ⟨_, he, fun v q => nomatch q⟩
    · exact ⟨o, ho, fun v q => by rw [hd] at q; cases q⟩
  keep := by
    rintro i h h' ⟨⟨old, he⟩, ⟨o, ho, r⟩, hne⟩ k
    exact ⟨⟨old, k e (by simp) _ he⟩, ⟨o, k it (by simp) o ho, r⟩, hne⟩
  item := by
    rintro X rfl rfl rfl hc i pins s σ H E I hf ⟨⟨old, he⟩, hit, hne⟩ hg
    have hel : e < s.heap.objs.size := Heap.lt_size he
    have hil : it < s.heap.objs.size := by
      obtain ⟨_, q, _⟩ := hit
      exact Heap.lt_size q
    have D := Draws.text (prog := X.prog) (w := X.w) (A := X.A.in1) (I.ok.hd hc) it x t
    refine wpAny_pyNext_enum_itemD D he hit hg hne (fun m => hne (List.mem_singleton.mp m)) fun u h' tk hu ho hit' hT hsz hk => ?_
    obtain ⟨c, tc, hx, rfl⟩ := hu
    refine ⟨_, rfl, wpAny_letOwnedTupleGo_enum (s := { s with heap := h', toks := tk + 1 }) ho fun h'' he' sb => ?_⟩
    have tupAt : h''.get? s.heap.objs.size = some { cls := .type "tuple", data := .seq #[.int i tk, .str ⟨#[c]⟩ tc] } := (sb.2 _ (Nat.ne_of_gt hel)).trans hT
    have fresh : ObjOk X.prog X.w (upd H s.heap.objs.size (.tup [.int (i : Nat), .str ⟨#[c]⟩])) h'' s.heap.objs.size (.tup [.int (i : Nat), .str ⟨#[c]⟩]) :=
      ⟨by show 2 ≤ sizeLine; decide, [.int i tk, .str ⟨#[c]⟩ tc], .cons ⟨_, rfl⟩ (.cons ⟨_, rfl⟩ .nil), ⟨_, tupAt, rfl, _, rfl⟩⟩
    have J : Inv X pins σ (upd H s.heap.objs.size (.tup [.int (i : Nat), .str ⟨#[c]⟩])) { s with heap := h'', toks := tk + 1 } :=
      I.turnedNew (ch := [e, it]) (fun b ob hb q => (sb.2 b (fun z => hb (by rw [z]; simp))).trans (hk b ob (fun z => hb (by rw [z]; simp)) (fun z => hb (by rw [z]; simp)) q)) hf (Nat.le_refl _) fresh
    refine ⟨.ref s.heap.objs.size, _, J, rfl, ⟨_, c, rfl, I.hok.fresh (Nat.le_refl _), rfl, hx⟩, ⟨⟨.str ⟨#[c]⟩ tc, ?_⟩, ?_, hne⟩, fun b hb => ?_⟩
    · rw [show ((i + 1 : Nat) : Int) = (i : Int) + 1 by omega]
      exact he'
    · obtain ⟨o, ho', r⟩ := hit'
      exact ⟨o, (sb.2 it (Ne.symm hne)).trans ho', r⟩
    · have lt : b < s.heap.objs.size := by
        rcases (show b = e ∨ b = it by simpa using hb) with z | z <;> rw [z]
        · exact hel
        · exact hil
      rw [upd_ne (Nat.ne_of_lt lt)]
      exact (hf b hb).1
  done := by
    rintro X rfl rfl rfl hc i pins s σ H E I hf ⟨⟨old, he⟩, hit, hne⟩ hg
    obtain ⟨f0, f1, f2, f3, f4, f5⟩ := hf it (by simp)
    have hg : i = x.cps.size := hg
    subst hg
    have D := Draws.text (prog := X.prog) (w := X.w) (A := X.A.in1) (I.ok.hd hc) it x t
    exact wpAny_pyNext_enum_endD D he hit fun h' eb => ⟨rfl, I.turned (t' := s.toks) (fun b o hb q => eb b o hb q) f0 f1 f3 f4 f5⟩
  self := fun A i s Q E st h => let ⟨⟨_, he⟩, _⟩ := st; wpAny_pyIter_enum he h
def iEnumS (ta : TA) : TI := fun σ H R => ta σ H fun vs H1 => ∃ x, vs = [.str x] ∧ R (Ites x) H1
theorem pi_enumS {X : Cx} {e : Expr} {ta : TA} {p pos tpos : Pos} {elts : List Expr} {kk : Nat} (hg : Gl X "enumerate") (hm : X.mg "enumerate" = none) (ha : PA X [e] ta) (hs : starEach [e] X.env = [(false, eval e X.env)] := by rfl) :
    PI X (.Tuple elts kk tpos) (.Call (.Name "enumerate" p) [e] [] pos) (iEnumS ta) := by
  refine ⟨fun pins s σ H R I h => ?_⟩
  refine Call_ (ld_blt I hg hm boot_enumerate (PyProof.Rows.callWith_type1 (thn (ha.run pos pins s σ H _ I h) fun us s1 ⟨vs, H1, I1, r1, q1⟩ => ?_) hs rfl))
  obtain ⟨x, ex, q⟩ := q1
  subst ex
  obtain ⟨u, rfl, t, rfl⟩ := vals1 r1
  refine call_enumerate_str fun h' he hit hsz hk => wpAny_pyIter_enum he ?_
  have J : Inv X pins σ H1 { s1 with heap := h' } := I1.kept (t' := s1.toks) hk
  refine ⟨s1.heap.objs.size + 1, [s1.heap.objs.size + 1, s1.heap.objs.size], _, _, H1, rfl, J, turn_enumS (s1.heap.objs.size + 1) s1.heap.objs.size x t, ⟨⟨.none, he⟩, hit, Nat.succ_ne_self _⟩, fun b hb => ?_, q⟩
  have le : s1.heap.objs.size ≤ b := by
    rcases (show b = s1.heap.objs.size + 1 ∨ b = s1.heap.objs.size by simpa using hb) with z | z <;> rw [z]
    · exact Nat.le_succ _
    · exact Nat.le_refl _
  exact I1.fpOk le (I1.hok.fresh le)
theorem walk_enumS {z : Str} : Walk (Ites z) z.cps.size (fun _ => True) (fun i H v H' => ∃ T c, v = .ref T ∧ H T = none ∧ H' = upd H T (.tup [.int (i : Nat), .str ⟨#[c]⟩]) ∧ z.cps[i]? = some c) :=
  ⟨fun _ _ hi _ => hi, fun _ _ => rfl, fun _ _ _ _ _ _ y => y⟩
end Sa

set_option maxHeartbeats 4000000
/-! The data layer: a def's slots hold data; lists that the def alone knows may change; the reading of a piece of syntax is a function on data. -/
namespace Sa
open PySem PySem.Spec PyProof.Rows L2 He NdefX
/-- who owns an address: nobody (frozen), 0 someone outside, i + 1 the slot i -/
abbrev Ow := Addr → Option Nat
def frz (ow : Ow) (H : Hp) : Hp := fun b => if ow b = none then H b else none
theorem frz_at {ow : Ow} {H : Hp} {b : Addr} (h : ow b = none) : frz ow H b = H b := if_pos h
theorem frz_no {ow : Ow} {H : Hp} {b : Addr} (h : ow b ≠ none) : frz ow H b = none := if_neg h
theorem frz_some {ow : Ow} {H : Hp} {b : Addr} {o : HO} (h : frz ow H b = some o) : ow b = none ∧ H b = some o := by
  by_cases e : ow b = none
  · rw [frz_at e] at h
    exact ⟨e, h⟩
  · rw [frz_no e] at h
    cases h
theorem frz_sub {ow : Ow} {H : Hp} : Same (frz ow H) H := fun b o h => (frz_some h).2
/-- the source of draws, by its three objects -/
structure DrA where
  d : Addr
  aw : Addr
  ac : Addr
structure DrS where
  wide : List Int
  cells : List Int
  rest : Int
  turn : Int
def DrAt (H : Hp) (p : DrA) (s : DrS) : Prop := p.aw ≠ p.ac ∧ H p.d = some (.dK (dk p.aw p.ac s.rest s.turn)) ∧ H p.aw = some (.lst (s.wide.map V.int)) ∧ H p.ac = some (.lst (s.cells.map V.int))
inductive Sk where
  | un
  | dat (d : PyData)
  | own (ds : List PyData)
  | drw (p : DrA) (s : DrS)
  /-- the table of code objects at p, all of the name q, whatever the slot holds -/
  | tab (p : Addr) (q : Str)
/-- the table's rows tell code objects of the name q -/
structure TabF (F : Hp) (ps : Array Value) (q : Str) : Prop where
  ok : TriplesOk ps.toList
  co : ∀ (pos : Pos) (cv : Value), codeAmong pos ps.toList = some cv → ∃ c, cv = .ref c ∧ F c = some (LamX.CodeO c q)
theorem TabF.same {F F' : Hp} {ps : Array Value} {q : Str} (s : Same F F') (t : TabF F ps q) : TabF F' ps q := ⟨t.ok, fun pos cv h => by
  obtain ⟨c, e, z⟩ := t.co pos cv h
  exact ⟨c, e, s _ _ z⟩⟩
abbrev En := List Sk
def SkR (K : PySem.W.Frag) (ow : Ow) (H : Hp) (i : Nat) : Sk → Option V → Prop
  | .un, _ => True
  | .dat d, o => ∃ v, o = some v ∧ Dq K (frz ow H) v d
  | .own ds, o => ∃ a vs, o = some (.ref a) ∧ ow a = some (i + 1) ∧ H a = some (.lst vs) ∧ DqAll K (frz ow H) vs ds
  | .drw p s, o => o = some (.ref p.d) ∧ (ow p.d = some (i + 1) ∧ ow p.aw = some (i + 1) ∧ ow p.ac = some (i + 1)) ∧ DrAt H p s
  | .tab p q, _ => ow p = some (i + 1) ∧ ∃ ps, H p = some (.tbl ps) ∧ TabF (frz ow H) ps q
structure R (K : PySem.W.Frag) (ow : Ow) (E : En) (σ : L2.St) (H : Hp) : Prop where
  tr : ∀ b, ow b ≠ none → H b ≠ none
  ln : E.length = σ.length
  sl : ∀ (i : Nat) (s : Sk) (o : Option V), E[i]? = some s → σ[i]? = some o → SkR K ow H i s o
/-- from one state to a later one -/
structure Stp (ow ow' : Ow) (H H' : Hp) : Prop where
  fz : ∀ b o, H b = some o → ow b = none → H' b = some o ∧ ow' b = none
  out : ∀ b o, H b = some o → ow b = some 0 → H' b = some o ∧ ow' b = some 0
  in0 : ∀ b, ow' b = some 0 → ow b = some 0
theorem Stp.refl (ow : Ow) (H : Hp) : Stp ow ow H H := ⟨fun _ _ h e => ⟨h, e⟩, fun _ _ h e => ⟨h, e⟩, fun _ e => e⟩
theorem Stp.trans {ow ow1 ow2 : Ow} {H H1 H2 : Hp} (a : Stp ow ow1 H H1) (b : Stp ow1 ow2 H1 H2) : Stp ow ow2 H H2 :=
  ⟨fun c o h e => b.fz c o (a.fz c o h e).1 (a.fz c o h e).2, fun c o h e => b.out c o (a.out c o h e).1 (a.out c o h e).2, fun c e => a.in0 c (b.in0 c e)⟩
theorem Stp.same {ow ow' : Ow} {H H' : Hp} (a : Stp ow ow' H H') : Same (frz ow H) (frz ow' H') := fun b o h => by
  obtain ⟨e, h⟩ := frz_some h
  obtain ⟨h1, e1⟩ := a.fz b o h e
  rw [frz_at e1]
  exact h1
theorem Stp.grow {ow : Ow} {H H' : Hp} (s : Same H H') : Stp ow ow H H' := ⟨fun b o h e => ⟨s b o h, e⟩, fun b o h e => ⟨s b o h, e⟩, fun _ e => e⟩
theorem Stp.dq {K : PySem.W.Frag} {ow ow' : Ow} {H H' : Hp} {v : V} {d : PyData} (a : Stp ow ow' H H') (h : Dq K (frz ow H) v d) : Dq K (frz ow' H') v d := Dq.same a.same d v h
theorem Stp.dqs {K : PySem.W.Frag} {ow ow' : Ow} {H H' : Hp} {vs : List V} {ds : List PyData} (a : Stp ow ow' H H') (h : DqAll K (frz ow H) vs ds) : DqAll K (frz ow' H') vs ds := Dq.sameAll a.same ds vs h
section
variable {K : PySem.W.Frag} {ow ow' : Ow} {E : En} {σ : L2.St} {H H' : Hp}
/-- the heap grows -/
theorem R.grow (r : R K ow E σ H) (s : Same H H') : R K ow E σ H' := by
  have f : Same (frz ow H) (frz ow H') := (Stp.grow s).same
  refine ⟨fun b h e => ?_, r.ln, fun i s' o h1 h2 => ?_⟩
  · cases q : H b with
    | none => exact r.tr b h q
    | some o =>
      rw [s b o q] at e
      cases e
  · have q := r.sl i s' o h1 h2
    cases s' with
    | un => trivial
    | dat d =>
      obtain ⟨v, e, z⟩ := q
      exact ⟨v, e, Dq.same f _ _ z⟩
    | own ds =>
      obtain ⟨a, vs, e, e1, e2, z⟩ := q
      exact ⟨a, vs, e, e1, s _ _ e2, Dq.sameAll f _ _ z⟩
    | drw p st =>
      obtain ⟨e, e1, z1, z2, z3, z4⟩ := q
      exact ⟨e, e1, z1, s _ _ z2, s _ _ z3, s _ _ z4⟩
    | tab p q =>
      obtain ⟨e, ps, e1, z⟩ := q
      exact ⟨e, ps, s _ _ e1, z.same f⟩
theorem R.fresh (r : R K ow E σ H) {p : Addr} (h : H p = none) : ow p = none := by
  cases q : ow p with
  | none => rfl
  | some n => exact absurd h (r.tr p (by rw [q]; simp))
/-- a new frozen object -/
theorem R.new (r : R K ow E σ H) {p : Addr} {o : HO} (h : H p = none) : R K ow E σ (upd H p o) := r.grow (Same.new h)
theorem Stp.new {p : Addr} {o : HO} (h : H p = none) : Stp ow ow H (upd H p o) := Stp.grow (Same.new h)
theorem frz_new {p : Addr} {o : HO} (h : ow p = none) : frz ow (upd H p o) p = some o := by
  rw [frz_at h, upd_same]
/-- other slots are forgotten -/
theorem R.weak {E' : En} (r : R K ow E σ H) (hl : E'.length = E.length) (h : ∀ (i : Nat) (s : Sk), E'[i]? = some s → E[i]? = some s ∨ s = .un) : R K ow E' σ H := by
  refine ⟨r.tr, hl.trans r.ln, fun i s o h1 h2 => ?_⟩
  rcases h i s h1 with z | z
  · exact r.sl i s o z h2
  · subst z
    trivial
/-- a slot is given data -/
theorem R.set (r : R K ow E σ H) {i : Nat} {v : V} {d : PyData} (h : Dq K (frz ow H) v d) : R K ow (E.set i (.dat d)) (σ.set i (some v)) H := by
  refine ⟨r.tr, by simp [r.ln], fun j s o h1 h2 => ?_⟩
  by_cases e : i = j
  · subst e
    by_cases hl : i < E.length
    · rw [List.getElem?_set_self hl] at h1
      rw [List.getElem?_set_self (by rw [← r.ln]; exact hl)] at h2
      cases h1
      cases h2
      exact ⟨v, rfl, h⟩
    · rw [List.getElem?_eq_none (by simpa using Nat.le_of_not_lt hl)] at h1
      cases h1
  · rw [List.getElem?_set_ne e] at h1 h2
    exact r.sl j s o h1 h2
end
/-! ### what a piece of syntax reads -/
inductive Rz (α : Type) where
  | ok (a : α) (E : En)
  | ex (c : Str) (fs : Option (List (Str × PyData))) (E : En)
abbrev M (α : Type) := En → Option (Rz α)
def ret {α : Type} (a : α) : M α := fun E => some (.ok a E)
def bnd {α β : Type} (m : M α) (k : α → M β) : M β := fun E => match m E with
  | none => none
  | some (.ok a E1) => k a E1
  | some (.ex c fs E1) => some (.ex c fs E1)
def die {α : Type} : M α := fun _ => none
def ofO {α : Type} : Option α → M α
  | some a => ret a
  | none => die
/-- an error as the layer tells it -/
def XcAt (K : PySem.W.Frag) (F : Hp) (cls : Value) (dv : Option Addr) (c : Str) : Option (List (Str × PyData)) → Prop
  | none => cls = .ref (ga K c) ∧ dv = none
  | some fs => ∃ dx vs, cls = .ref (ga K c) ∧ dv = some dx ∧ F dx = some (.xd vs) ∧ vs.map (·.1) = fs.map (·.1) ∧ DqAll K F (vs.map (·.2)) (fs.map (·.2))
/-- of an outcome: what is wanted behind a result, what of an error -/
def Post {α : Type} (K : PySem.W.Frag) (W : XK) (ow : Ow) (σ : L2.St) (H : Hp) (r : Rz α) (k : α → En → Ow → Hp → Prop) : Prop := match r with
  | .ok a E => ∀ ow' H', R K ow' E σ H' → Stp ow ow' H H' → k a E ow' H'
  | .ex c fs _ => ∀ ow' H' cls dv, Stp ow ow' H H' → XcAt K (frz ow' H') cls dv c fs → W cls dv H'
def tE (K : PySem.W.Frag) (W : XK) (f : M PyData) : TE := fun σ H Q => ∃ ow E, R K ow E σ H ∧ ∃ r, f E = some r ∧
  match r with
  | .ok d E' => ∀ ow' H' v, R K ow' E' σ H' → Stp ow ow' H H' → Dq K (frz ow' H') v d → Q v H'
  | .ex c fs _ => ∀ ow' H' cls dv, Stp ow ow' H H' → XcAt K (frz ow' H') cls dv c fs → W cls dv H'
def tT (K : PySem.W.Frag) (W : XK) (f : M Bool) : TT := fun σ H Q => ∃ ow E, R K ow E σ H ∧ ∃ r, f E = some r ∧
  match r with
  | .ok b E' => ∀ ow' H', R K ow' E' σ H' → Stp ow ow' H H' → Q b H'
  | .ex c fs _ => ∀ ow' H' cls dv, Stp ow ow' H H' → XcAt K (frz ow' H') cls dv c fs → W cls dv H'
def tA (K : PySem.W.Frag) (W : XK) (f : M (List PyData)) : TA := fun σ H Q => ∃ ow E, R K ow E σ H ∧ ∃ r, f E = some r ∧
  match r with
  | .ok ds E' => ∀ ow' H' vs, R K ow' E' σ H' → Stp ow ow' H H' → DqAll K (frz ow' H') vs ds → Q vs H'
  | .ex c fs _ => ∀ ow' H' cls dv, Stp ow ow' H H' → XcAt K (frz ow' H') cls dv c fs → W cls dv H'
/-- a new list -/
def tF (K : PySem.W.Frag) (W : XK) (f : M (List PyData)) : TE := fun σ H Q => ∃ ow E, R K ow E σ H ∧ ∃ r, f E = some r ∧
  match r with
  | .ok ds E' => ∀ ow' H' a vs, H' a = none → R K ow' E' σ H' → Stp ow ow' H H' → DqAll K (frz ow' H') vs ds → Q (.ref a) (upd H' a (.lst vs))
  | .ex c fs _ => ∀ ow' H' cls dv, Stp ow ow' H H' → XcAt K (frz ow' H') cls dv c fs → W cls dv H'
/-! a reading that is stronger -/
section
variable {X : Cx}
theorem PE.imp {e : Expr} {t u : TE} (h : PE X e t) (k : ∀ σ H Q, u σ H Q → t σ H Q) : PE X e u := ⟨fun pins s σ H Q I hw => h.run pins s σ H Q I (k _ _ _ hw)⟩
theorem PT.imp {e : Expr} {t u : TT} (h : PT X e t) (k : ∀ σ H Q, u σ H Q → t σ H Q) : PT X e u := ⟨fun pins s σ H Q I hw => h.run pins s σ H Q I (k _ _ _ hw)⟩
theorem PA.imp {es : List Expr} {t u : TA} (h : PA X es t) (k : ∀ σ H Q, u σ H Q → t σ H Q) : PA X es u := ⟨fun pos pins s σ H Q I hw => h.run pos pins s σ H Q I (k _ _ _ hw)⟩
theorem PS.imp {st : Stmt} {t u : TS} (h : PS X st t) (k : ∀ D σ H, u D σ H → t D σ H) : PS X st u := ⟨fun pins s σ H D I hw => h.run pins s σ H D I (k _ _ _ hw)⟩
theorem PSs.imp {st : List Stmt} {t u : TS} (h : PSs X st t) (k : ∀ D σ H, u D σ H → t D σ H) : PSs X st u := ⟨fun pins s σ H D I hw => h.run pins s σ H D I (k _ _ _ hw)⟩
theorem PW.imp {e : Expr} {t u : TT} (h : PW X e t) (k : ∀ σ H Q, u σ H Q → t σ H Q) : PW X e u := ⟨fun wh pins s σ H Q I hw => h.run wh pins s σ H Q I (k _ _ _ hw)⟩
end
/-! composing readings -/
section
variable {K : PySem.W.Frag} {W : XK} {σ : L2.St} {H : Hp} {ow : Ow} {E : En}
theorem bnd_some {α β : Type} {m : M α} {k : α → M β} {E : En} {r : Rz β} (h : bnd m k E = some r) :
    (∃ a E1, m E = some (.ok a E1) ∧ k a E1 = some r) ∨ ∃ c fs E1, m E = some (.ex c fs E1) ∧ r = .ex c fs E1 := by
  unfold bnd at h
  cases q : m E with
  | none =>
    rw [q] at h
    cases h
  | some z =>
    rw [q] at h
    cases z with
    | ok a E1 => exact .inl ⟨a, E1, rfl, h⟩
    | ex c fs E1 => exact .inr ⟨c, fs, E1, rfl, (Option.some.inj h).symm⟩
/-- first f, then what follows -/
theorem tE_bnd {β : Type} {f : M PyData} {k : PyData → M β} {r : Rz β} (rr : R K ow E σ H) (h : bnd f k E = some r) {Q : VK}
    (hx : ∀ c fs E1, r = .ex c fs E1 → ∀ ow' H' cls dv, Stp ow ow' H H' → XcAt K (frz ow' H') cls dv c fs → W cls dv H')
    (ho : ∀ d E1, k d E1 = some r → ∀ ow' H' v, R K ow' E1 σ H' → Stp ow ow' H H' → Dq K (frz ow' H') v d → Q v H') : tE K W f σ H Q := by
  rcases bnd_some h with ⟨d, E1, h1, h2⟩ | ⟨c, fs, E1, h1, h2⟩
  · exact ⟨ow, E, rr, _, h1, fun ow' H' v r' s' z => ho d E1 h2 ow' H' v r' s' z⟩
  · exact ⟨ow, E, rr, _, h1, fun ow' H' cls dv s' z => hx c fs E1 h2 ow' H' cls dv s' z⟩
theorem tT_bnd {β : Type} {f : M Bool} {k : Bool → M β} {r : Rz β} (rr : R K ow E σ H) (h : bnd f k E = some r) {Q : Bool → Hp → Prop}
    (hx : ∀ c fs E1, r = .ex c fs E1 → ∀ ow' H' cls dv, Stp ow ow' H H' → XcAt K (frz ow' H') cls dv c fs → W cls dv H')
    (ho : ∀ d E1, k d E1 = some r → ∀ ow' H', R K ow' E1 σ H' → Stp ow ow' H H' → Q d H') : tT K W f σ H Q := by
  rcases bnd_some h with ⟨d, E1, h1, h2⟩ | ⟨c, fs, E1, h1, h2⟩
  · exact ⟨ow, E, rr, _, h1, fun ow' H' r' s' => ho d E1 h2 ow' H' r' s'⟩
  · exact ⟨ow, E, rr, _, h1, fun ow' H' cls dv s' z => hx c fs E1 h2 ow' H' cls dv s' z⟩
theorem tA_bnd {β : Type} {f : M (List PyData)} {k : List PyData → M β} {r : Rz β} (rr : R K ow E σ H) (h : bnd f k E = some r) {Q : List V → Hp → Prop}
    (hx : ∀ c fs E1, r = .ex c fs E1 → ∀ ow' H' cls dv, Stp ow ow' H H' → XcAt K (frz ow' H') cls dv c fs → W cls dv H')
    (ho : ∀ d E1, k d E1 = some r → ∀ ow' H' vs, R K ow' E1 σ H' → Stp ow ow' H H' → DqAll K (frz ow' H') vs d → Q vs H') : tA K W f σ H Q := by
  rcases bnd_some h with ⟨d, E1, h1, h2⟩ | ⟨c, fs, E1, h1, h2⟩
  · exact ⟨ow, E, rr, _, h1, fun ow' H' v r' s' z => ho d E1 h2 ow' H' v r' s' z⟩
  · exact ⟨ow, E, rr, _, h1, fun ow' H' cls dv s' z => hx c fs E1 h2 ow' H' cls dv s' z⟩
theorem tF_bnd {β : Type} {f : M (List PyData)} {k : List PyData → M β} {r : Rz β} (rr : R K ow E σ H) (h : bnd f k E = some r) {Q : VK}
    (hx : ∀ c fs E1, r = .ex c fs E1 → ∀ ow' H' cls dv, Stp ow ow' H H' → XcAt K (frz ow' H') cls dv c fs → W cls dv H')
    (ho : ∀ d E1, k d E1 = some r → ∀ ow' H' a vs, H' a = none → R K ow' E1 σ H' → Stp ow ow' H H' → DqAll K (frz ow' H') vs d → Q (.ref a) (upd H' a (.lst vs))) : tF K W f σ H Q := by
  rcases bnd_some h with ⟨d, E1, h1, h2⟩ | ⟨c, fs, E1, h1, h2⟩
  · exact ⟨ow, E, rr, _, h1, fun ow' H' a vs n r' s' z => ho d E1 h2 ow' H' a vs n r' s' z⟩
  · exact ⟨ow, E, rr, _, h1, fun ow' H' cls dv s' z => hx c fs E1 h2 ow' H' cls dv s' z⟩
end
end Sa

set_option maxHeartbeats 4000000
/-! Tuples that are made: it is kept that they have no dict. -/
namespace Sa
open PySem PySem.Spec PyProof.Rows L2 He NdefX
def tupO (its : List Value) : Obj := { cls := .type "tuple", data := .seq its.toArray }
/-- a new tuple's place -/
def TupNew (xs : List V) (H : Hp) (Q : VK) : Prop := ∀ p o, H p = none → o.dict = none → Q (.ref p) (upd H p (.frz o (.tup xs)))
section
variable {X : Cx}
theorem tup_laid {pins : List (Addr × Obj)} {σ : L2.St} {H : Hp} {s : Shared} {xs : List V} {its : List Value} {Q : VK} (J : Inv X pins σ H s) (rel : Vals xs its) (few : xs.length ≤ sizeLine) (q : TupNew xs H Q) :
    EP X pins σ Q (.ref s.heap.objs.size) { s with heap := s.heap.push (tupO its) } := by
  have free : H s.heap.objs.size = none := J.hok.fresh (Nat.le_refl _)
  have at_ : (s.heap.push (tupO its)).get? s.heap.objs.size = some (tupO its) := Heap.get?_push_size _ rfl
  refine ⟨.ref s.heap.objs.size, upd H s.heap.objs.size (.frz (tupO its) (.tup xs)), ?_, rfl, q _ (tupO its) free rfl⟩
  exact J.laid (t' := s.toks) (fun _ _ there => Heap.get?_push_of_some _ there) (Nat.le_refl _) ⟨at_, few, its, rel, tupO its, at_, rfl, 0, rfl⟩
def tTupF (t : TA) : TE := fun σ H Q => t σ H fun xs H1 => xs.length ≤ sizeLine ∧ TupNew xs H1 Q
theorem pe_tupF {es : List Expr} {ta : TA} {pos : Pos} {x1} (parts : PA X es ta) : PE X (.Tuple es x1 pos) (tTupF ta) := by
  refine ⟨fun pins s σ H Q J hq => wpAny_Tuple_spliced (thn (parts.run pos pins s σ H _ J hq) ?_)⟩
  rintro us s1 ⟨xs, H1, J1, rel, few, q⟩
  exact ⟨by rw [← rel.length]; exact few, tup_laid J1 rel few q⟩
/-- tuple(xs) -/
theorem call_tupleF : CallR X (.type "tuple") (fun xs H Q => ∃ p ys, xs = [.ref p] ∧ ((SqL X.K H p ys ∧ TupNew ys H Q) ∨ (SqT X.K H p ys ∧ Q (.ref p) H))) := by
  rintro pins s σ H xs us Q J rel ⟨p, ys, rfl, ⟨seq, q⟩ | ⟨seq, q⟩⟩
  · obtain ⟨u, rfl, ru⟩ := vals1 rel
    cases ru
    obtain ⟨its, r2, pl, few⟩ := J.list seq
    refine call_tuple_list pl.isList (fun h2 kp => ?_) (by rw [List.size_toArray, ← r2.length]; exact few)
    exact tup_laid (s := { s with heap := h2 }) (J.kept (t' := s.toks) kp) r2 few q
  · exact call_tuple_of pins s σ H _ us Q J rel ⟨p, ys, rfl, .inr ⟨seq, q⟩⟩
/-- t + u -/
def rCatF (K : PySem.W.Frag) : R2 := fun x y H Q => ∃ a b xs ys, x = .ref a ∧ y = .ref b ∧ SqT K H a xs ∧ SqT K H b ys ∧ xs.length + ys.length ≤ sizeLine ∧
  (xs = [] → Q (.ref b) H) ∧ (ys = [] → Q (.ref a) H) ∧ TupNew (xs ++ ys) H Q
theorem op_catF : OpR X (binaryOp .Add) (rCatF X.K) := by
  rintro pins s σ H x y v u Q J rx ry ⟨a, b, xs, ys, rfl, rfl, ha, hb, few, q0, q1, q2⟩
  obtain ⟨its, r1, p1, _⟩ := J.tuple ha
  obtain ⟨jts, r2, p2, _⟩ := J.tuple hb
  by_cases hx : xs = []
  · exact op_catA pins s σ H _ _ v u Q J rx ry ⟨a, b, xs, ys, rfl, rfl, ha, hb, few, q0, fun z => absurd hx z, fun z => absurd hx z⟩
  · cases rx
    cases ry
    refine HT.cat_tup p1 p2 (fun z => hx (r1.nil_iff.mp z)) (fun z => ⟨.ref a, H, J, rfl, q1 (r2.nil_iff.mp z)⟩) (fun _ => ?_) (by rw [← r1.length, ← r2.length]; exact few)
    exact tup_laid J (r1.append r2) (by rw [List.length_append]; exact few) q2
/-- t[lo:hi] -/
def rSlF (K : PySem.W.Frag) : V → Option Int → Option Int → Hp → VK → Prop := fun x lo hi H Q => ∃ a xs, x = .ref a ∧ SqT K H a xs ∧ (cutV xs lo hi = xs → Q (.ref a) H) ∧ TupNew (cutV xs lo hi) H Q
theorem cut_whole {xs : List V} {lo hi : Option Int} (h : HT.sIx xs.length 0 lo = 0 ∧ HT.sIx xs.length xs.length hi = xs.length) : cutV xs lo hi = xs := by
  unfold cutV
  rw [h.1, h.2]
  simp
theorem sl_tupF : SlR X (rSlF X.K) := by
  rintro pins s σ H x v vl vu lo hi sl Q J rx hs pl pu ⟨a, xs, rfl, seq, q1, q2⟩
  by_cases hw : HT.sIx xs.length 0 lo = 0 ∧ HT.sIx xs.length xs.length hi = xs.length
  · exact sl_tupA pins s σ H _ v vl vu lo hi sl Q J rx hs pl pu ⟨a, xs, rfl, seq, fun _ => q1 (cut_whole hw), fun z => absurd hw z⟩
  · cases rx
    obtain ⟨its, rel, ht, few⟩ := J.tuple seq
    have size : its.toArray.size = xs.length := by rw [List.size_toArray]; exact rel.length.symm
    refine ⟨"tuple", _, PyProof.Rows.slot_tuple_getitem.lookup, ht.typeIs, HT.getItem_tuple_cut ht hs pl pu (by rw [size]; exact hw) ?_ (by rw [size]; exact few)⟩
    rw [size]
    exact tup_laid J ((rel.drop (HT.sIx xs.length 0 lo)).take (HT.sIx xs.length xs.length hi - HT.sIx xs.length 0 lo)) (Nat.le_trans (cutV_length xs lo hi) few) q2
/-- xs + ys, lists of any kind -/
def rCatL (K : PySem.W.Frag) : R2 := fun x y H Q => ∃ a b xs ys, x = .ref a ∧ y = .ref b ∧ SqL K H a xs ∧ SqL K H b ys ∧ xs.length + ys.length ≤ sizeLine ∧ ∀ p, H p = none → Q (.ref p) (upd H p (.lst (xs ++ ys)))
theorem PlainL.isL {h : Heap} {a : Addr} {its : Array Value} (pl : PlainL h a its) : ∃ n sl, h.get? a = some { cls := .type "list", data := .seq its n, slots := sl } := by
  obtain ⟨⟨cls, dd, data, sl⟩, n, e, hc, hd, ht⟩ := pl
  simp only at hc hd ht
  subst hc hd ht
  exact ⟨n, sl, e⟩
theorem op_catL : OpR X (binaryOp .Add) (rCatL X.K) := by
  rintro pins s σ H x y v u Q J rx ry ⟨a, b, xs, ys, rfl, rfl, ha, hb, few, q⟩
  cases rx
  cases ry
  obtain ⟨its, r1, p1, _⟩ := J.list ha
  obtain ⟨jts, r2, p2, _⟩ := J.list hb
  obtain ⟨⟨cls, dd, data, sl⟩, n, e, hc, hd, ht⟩ := p1
  obtain ⟨⟨cls2, dd2, data2, sl2⟩, n2, e2, hc2, hd2, ht2⟩ := p2
  simp only at hc hd ht hc2 hd2 ht2
  subst hc hd ht hc2 hd2 ht2
  have join : its.toArray ++ jts.toArray = (its ++ jts).toArray := by simp
  have size : (its ++ jts).length = xs.length + ys.length := by rw [List.length_append, ← r1.length, ← r2.length]
  refine PySem.concat_meets ⟨_, e, rfl⟩ ⟨_, e2, rfl⟩ noFill_list_add seq_list_add PySem.F.slot_list_add PySem.F.entry_list_add (PySem.F.args_list_add_2 _ _) (PyProof.Rows.list_addW a b its.toArray jts.toArray n n2 none none sl sl2 (by rw [List.size_toArray, List.size_toArray, ← r1.length, ← r2.length]; exact few)) ⟨e, e2, ?_⟩
  rw [join]
  have at_ : (s.heap.push { cls := .type "list", data := .seq (its ++ jts).toArray }).get? s.heap.objs.size = some { cls := .type "list", data := .seq (its ++ jts).toArray } := Heap.get?_push_size _ rfl
  refine ⟨.ref s.heap.objs.size, _, ?_, rfl, q s.heap.objs.size (J.hok.fresh (Nat.le_refl _))⟩
  exact J.laid (t' := s.toks) (fun _ _ there => Heap.get?_push_of_some _ there) (Nat.le_refl _) ⟨by rw [List.length_append]; exact few, its ++ jts, 0, r1.append r2, at_⟩
/-! ### a method of a tuple -/
theorem tuple_noDict {pins : List (Addr × Obj)} {σ : L2.St} {H : Hp} {s : Shared} {a : Addr} {xs : List V} (J : Inv X pins σ H s) (h : SqD X.K H a xs) : ∃ o, s.heap.get? a = some o ∧ o.dict = none := by
  rcases h with ⟨o, h, d⟩ | ⟨o, its, n, h1, _, _, _, _, d⟩
  · exact ⟨o, (J.hok a _ h).1, d⟩
  · exact ⟨o, J.kIn a o h1, d⟩
def tBMT (K : PySem.W.Frag) (r : V → List V → Hp → VK → Prop) (to : TE) (t : TA) : TE := fun σ H Q => to σ H fun x H1 => (∃ a xs, x = .ref a ∧ SqD K H1 a xs) ∧ t σ H1 fun ys H2 => r x ys H2 Q
theorem pe_bmT {o e : Expr} {es : List Expr} {to : TE} {t : TA} {name : Str} {apos cpos : Pos} {id : String} {r : V → List V → Hp → VK → Prop} (slot : Slot "tuple" name id) (kind : typeOf (.builtin id) = pure (.type "method_descriptor")) (rule : MtR X id r) (recv : PE X o to) (args : PA X (e :: es) t)
    (b1 : attributeBase o name X.env (eval o X.env) = eval o X.env := by rfl)
    (b2 : ((backTo cpos (starEach (e :: es) X.env)).all (fun x => !x.1) && (backToKw cpos (keywordEach [] X.env)).all (fun x => x.1.isSome)
      && decide ((e :: es).length + ([] : List Keyword).length + (if ([] : List Keyword).isEmpty then 0 else 1) < 30)) = true := by rfl)
    (b3 : (apos.endLine == cpos.line) = true := by rfl) (b4 : starEach (e :: es) X.env = (false, eval e X.env) :: starEach es X.env := by rfl) (b5 : (backTo cpos (starEach es X.env)).any (·.1) = false := by rfl) :
    PE X (.Call (.Attribute o name apos) (e :: es) [] cpos) (tBMT X.K r to t) := by
  refine ⟨fun pins s σ H Q J h => wpAny_Call_method_late b1 b2 b3 rfl (thn (recv.run pins s σ H _ J h) ?_)⟩
  rintro v s1 ⟨x, H1, J1, rx, ⟨a, xs, rfl, hd⟩, q⟩
  obtain rfl : v = Value.ref a := rx
  obtain ⟨its, _, ht, _⟩ := J1.tuple hd.sq
  refine ⟨"tuple", id, PySem.F.plainAttrs_tuple, slot, kind, ht.typeIs, fun b e => by cases e; exact tuple_noDict J1 hd, ?_⟩
  have ran := args.run cpos pins s1 σ H1 _ J1 q
  rw [b4] at ran ⊢
  refine Calls.callWith_builtin (by show (false || (backTo cpos (starEach es X.env)).any (·.1)) = false; rw [b5] <;> rfl) (Calls.evalArgs_plain (thn ran ?_))
  rintro us s2 ⟨vs, H2, J2, r2, q2⟩
  exact rule pins s2 σ H2 (.ref a) vs _ us Q J2 rfl r2 q2
end
end Sa

set_option maxHeartbeats 4000000
/-! The data layer: expressions. -/
namespace Sa
open PySem PySem.Spec PyProof.Rows L2 He NdefX
section
variable {K : PySem.W.Frag} {H : Hp}
theorem DqAll.length : ∀ {vs : List V} {ds : List PyData}, DqAll K H vs ds → vs.length = ds.length
  | _, _, .nil => rfl
  | _, _, .cons _ h => by simp [DqAll.length h]
theorem DqAll.get : ∀ {vs : List V} {ds : List PyData} (i : Nat) {d : PyData}, DqAll K H vs ds → ds[i]? = some d → ∃ v, vs[i]? = some v ∧ Dq K H v d
  | _, _, _, _, .nil, e => by simp at e
  | _, _, 0, d, .cons (v := v) h _, e => by
    have z := Option.some.inj e
    subst z
    exact ⟨v, rfl, h⟩
  | _, _, i + 1, d, .cons _ h, e => by
    rw [List.getElem?_cons_succ] at e ⊢
    exact DqAll.get i h e
theorem DqAll.get' : ∀ {vs : List V} {ds : List PyData} (i : Nat) {v : V}, DqAll K H vs ds → vs[i]? = some v → ∃ d, ds[i]? = some d ∧ Dq K H v d
  | _, _, _, _, .nil, e => by simp at e
  | _, _, 0, v, .cons (d := d) h _, e => by
    have z := Option.some.inj e
    subst z
    exact ⟨d, rfl, h⟩
  | _, _, i + 1, d, .cons _ h, e => by
    rw [List.getElem?_cons_succ] at e ⊢
    exact DqAll.get' i h e
theorem DqAll.append : ∀ {vs ws : List V} {ds es : List PyData}, DqAll K H vs ds → DqAll K H ws es → DqAll K H (vs ++ ws) (ds ++ es)
  | _, _, _, _, .nil, h => h
  | _, _, _, _, .cons a b, h => .cons a (DqAll.append b h)
theorem DqAll.take : ∀ {vs : List V} {ds : List PyData} (n : Nat), DqAll K H vs ds → DqAll K H (vs.take n) (ds.take n)
  | _, _, 0, _ => by simp; exact .nil
  | _, _, n + 1, .nil => .nil
  | _, _, n + 1, .cons a b => .cons a (DqAll.take n b)
theorem DqAll.drop : ∀ {vs : List V} {ds : List PyData} (n : Nat), DqAll K H vs ds → DqAll K H (vs.drop n) (ds.drop n)
  | _, _, 0, h => h
  | _, _, n + 1, .nil => .nil
  | _, _, n + 1, .cons a b => DqAll.drop n b
theorem DqAll.snoc {vs : List V} {ds : List PyData} {v : V} {d : PyData} (h : DqAll K H vs ds) (z : Dq K H v d) : DqAll K H (vs ++ [v]) (ds ++ [d]) := h.append (.cons z .nil)
theorem DqAll.erase : ∀ {vs : List V} {ds : List PyData} (n : Nat), DqAll K H vs ds → DqAll K H (vs.eraseIdx n) (ds.eraseIdx n)
  | _, _, _, .nil => .nil
  | _, _, 0, .cons a b => b
  | _, _, n + 1, .cons a b => .cons a (DqAll.erase n b)
theorem DqAll.mem : ∀ {vs : List V} {ds : List PyData} {v : V}, DqAll K H vs ds → v ∈ vs → ∃ d, d ∈ ds ∧ Dq K H v d
  | _, _, _, .nil, h => by cases h
  | _, _, v, .cons (d := d) a b, h => by
    rcases List.mem_cons.mp h with e | h
    · subst e
      exact ⟨d, List.mem_cons_self, a⟩
    · obtain ⟨e, h1, h2⟩ := DqAll.mem b h
      exact ⟨e, List.mem_cons_of_mem _ h1, h2⟩
mutual
theorem Dq.dp : ∀ (d : PyData) (v : V), d.canLay0 = true → Dq K H v d → Dp K H v d
  | .none, _, _, h => by cases h; exact .non
  | .bool _, _, _, h => by cases h; exact .bl _
  | .int _, _, _, h => by cases h; exact .int _
  | .str _, _, _, h => by cases h; exact .str _
  | .list ds, _, c, h => by
    cases h with
    | lst hs ha => exact .lst hs (DqAll.dp ds _ c ha)
  | .tuple ds, _, c, h => by
    cases h with
    | tup hs ha => exact .tup hs.sq (DqAll.dp ds _ c ha)
  | .dict _, _, c, _ => nomatch c
theorem DqAll.dp : ∀ (ds : List PyData) (vs : List V), PyData.canLayAll0 ds = true → DqAll K H vs ds → DpAll K H vs ds
  | [], _, _, h => by cases h; exact .nil
  | d :: ds, _, c, h => by
    have c' : d.canLay0 = true ∧ PyData.canLayAll0 ds = true := by simpa [PyData.canLayAll0] using c
    cases h with
    | cons a b => exact .cons (Dq.dp d _ c'.1 a) (DqAll.dp ds _ c'.2 b)
end
end
/-! ### operators -/
/-- an operator's rule by values says at least what the function on data says -/
def OpD (K : PySem.W.Frag) (r : R2) (op : PyData → PyData → Option PyData) : Prop := ∀ (ow : Ow) (H : Hp) (x y : V) (d e z : PyData) (Q : VK), (∀ b, ow b ≠ none → H b ≠ none) → Dq K (frz ow H) x d → Dq K (frz ow H) y e → op d e = some z →
  (∀ v H', Same H H' → Dq K (frz ow H') v z → Q v H') → r x y H Q
def m2 (op : PyData → PyData → Option PyData) (f g : M PyData) : M PyData := bnd f fun d => bnd g fun e => ofO (op d e)
def m1 (op : PyData → Option PyData) (f : M PyData) : M PyData := bnd f fun d => ofO (op d)
theorem ofO_some {α : Type} {o : Option α} {E : En} {r : Rz α} (h : ofO o E = some r) : ∃ a, o = some a ∧ r = .ok a E := by
  cases o with
  | none => cases h
  | some a => exact ⟨a, rfl, (Option.some.inj h).symm⟩
section
variable {X : Cx} {K : PySem.W.Frag} {W : XK} {σ : L2.St} {H : Hp} {r r' : R2} {op op' : PyData → PyData → Option PyData} {f g : M PyData} {Q : VK} {a b : Expr} {pos : Pos}
theorem tE_op (hd : OpD K r op) (h : tE K W (m2 op f g) σ H Q) : tOp r (tE K W f) (tE K W g) σ H Q := by
  obtain ⟨ow, E, rr, z, hz, k⟩ := h
  refine tE_bnd rr hz (fun c fs E1 e => by subst e; exact k) fun d E1 h1 ow1 H1 v R1 S1 q1 => ?_
  refine tE_bnd R1 h1 (fun c fs E1 e ow' H' cls dv s x => by subst e; exact k ow' H' cls dv (S1.trans s) x) fun e E2 h2 ow2 H2 u R2 S2 q2 => ?_
  obtain ⟨w, hw, rfl⟩ := ofO_some h2
  exact hd ow2 H2 v u d e w Q R2.tr (S2.dq q1) q2 hw fun v' H' s q => k ow2 H' v' (R2.grow s) ((S1.trans S2).trans (Stp.grow s)) q
theorem de_op {o : Operator} (ho : OpR X (binaryOp o) r) (hd : OpD X.K r op) (ha : PE X a (tE X.K W f)) (hb : PE X b (tE X.K W g)) : PE X (.BinOp a o b pos) (tE X.K W (m2 op f g)) :=
  PE.imp (pe_op ho ha hb) fun _ _ _ h => tE_op hd h
theorem de_cmp {o : CmpOp} (ho : OpR X (compareOp o) r) (hd : OpD X.K r op) (ha : PE X a (tE X.K W f)) (hb : PE X b (tE X.K W g)) (hm : behindInMarks o b = false) : PE X (.Compare a [o] [b] pos) (tE X.K W (m2 op f g)) :=
  PE.imp (pe_cmpR ho ha hb hm) fun _ _ _ h => tE_op hd h
/-- as a truth -/
def asB (f : M PyData) : M Bool := bnd f fun d => match d with
  | .bool b => ret b
  | _ => die
theorem asB_some {d : PyData} {E : En} {r : Rz Bool} (h : (match d with | .bool b => ret b | _ => die : M Bool) E = some r) : ∃ b, d = .bool b ∧ r = .ok b E := by
  cases d with
  | bool b => exact ⟨b, rfl, (Option.some.inj h).symm⟩
  | _ => cases h
theorem tB_of {Q : Bool → Hp → Prop} (h : tT K W (asB f) σ H Q) : tE K W f σ H fun x H1 => ∃ c, x = .bl c ∧ Q c H1 := by
  obtain ⟨ow, E, rr, z, hz, k⟩ := h
  refine tE_bnd rr hz (fun c fs E1 e => by subst e; exact k) fun d E1 h1 ow1 H1 v R1 S1 q1 => ?_
  obtain ⟨b, rfl, rfl⟩ := asB_some h1
  cases q1
  exact ⟨b, rfl, k ow1 H1 R1 S1⟩
theorem dt_val {e : Expr} (h : PE X e (tE X.K W f)) (he : ∀ whole, isTrue e X.env whole = (do let v ← whole; standAt e.pos; holding [v] (truthy v)) := by intro _; rfl) : PT X e (tT X.K W (asB f)) :=
  PT.imp (pt_val h he) fun _ _ _ h => tB_of h
theorem dt_cmp {o : CmpOp} (ho : OpR X (compareOp o) r) (hd : OpD X.K r op) (ha : PE X a (tE X.K W f)) (hb : PE X b (tE X.K W g)) (hm : behindInMarks o b = false) : PT X (.Compare a [o] [b] pos) (tT X.K W (asB (m2 op f g))) :=
  PT.imp (pt_cmpR ho ha hb hm) fun _ _ _ h => tE_op hd (tB_of h)
/-- a < b < c -/
def chD (op op' : PyData → PyData → Option PyData) (f g k : M PyData) : M PyData := bnd f fun d => bnd g fun e => match op d e with
  | some (.bool true) => bnd k fun z => ofO (op' e z)
  | some (.bool false) => ret (.bool false)
  | _ => die
theorem tE_ch {k : M PyData} (hd : OpD K r op) (hd' : OpD K r' op') (h : tE K W (chD op op' f g k) σ H Q) : tChain r r' (tE K W f) (tE K W g) (tE K W k) σ H Q := by
  obtain ⟨ow, E, rr, z, hz, kk⟩ := h
  refine tE_bnd rr hz (fun c fs E1 e => by subst e; exact kk) fun d E1 h1 ow1 H1 v R1 S1 q1 => ?_
  refine tE_bnd R1 h1 (fun c fs E1 e ow' H' cls dv s x => by subst e; exact kk ow' H' cls dv (S1.trans s) x) fun e E2 h2 ow2 H2 u R2 S2 q2 => ?_
  cases hop : op d e with
  | none =>
    rw [hop] at h2
    cases h2
  | some w =>
    rw [hop] at h2
    cases w with
    | bool b =>
      refine hd ow2 H2 v u d e (.bool b) _ R2.tr (S2.dq q1) q2 hop fun v' H3 s q => ?_
      cases q
      refine ⟨b, rfl, ?_⟩
      have R3 := R2.grow s
      have S3 : Stp ow ow2 H H3 := (S1.trans S2).trans (Stp.grow s)
      cases b with
      | true =>
        refine ifT ?_
        refine tE_bnd R3 h2 (fun c fs E1 e ow' H' cls dv s x => by subst e; exact kk ow' H' cls dv (S3.trans s) x) fun y E4 h4 ow4 H4 u4 R4 S4 q4 => ?_
        obtain ⟨w, hw, rfl⟩ := ofO_some h4
        exact hd' ow4 H4 u u4 e y w Q R4.tr (((Stp.grow s).trans S4).dq q2) q4 hw fun v' H' s' q => kk ow4 H' v' (R4.grow s') ((S3.trans S4).trans (Stp.grow s')) q
      | false =>
        have e0 := Option.some.inj h2
        subst e0
        exact kk ow2 H3 _ R3 S3 (.bl false)
    | _ => cases h2
theorem de_ch {o o' : CmpOp} {c : Expr} {k : M PyData} (ho : OpR X (compareOp o) r) (hd : OpD X.K r op) (ho' : OpR X (compareOp o') r') (hd' : OpD X.K r' op') (ha : PE X a (tE X.K W f)) (hb : PE X b (tE X.K W g)) (hc : PE X c (tE X.K W k))
    (hm : lastMarks [o, o'] [b, c] = false := by with_unfolding_all rfl) : PE X (.Compare a [o, o'] [b, c] pos) (tE X.K W (chD op op' f g k)) :=
  PE.imp (pe_chain ho ho' ha hb hc hm) fun _ _ _ h => tE_ch hd hd' h
theorem dt_ch {o o' : CmpOp} {c : Expr} {k : M PyData} (ho : OpR X (compareOp o) r) (hd : OpD X.K r op) (ho' : OpR X (compareOp o') r') (hd' : OpD X.K r' op') (ha : PE X a (tE X.K W f)) (hb : PE X b (tE X.K W g)) (hc : PE X c (tE X.K W k))
    (hm : lastMarks [o, o'] [b, c] = false := by with_unfolding_all rfl) : PT X (.Compare a [o, o'] [b, c] pos) (tT X.K W (asB (chD op op' f g k))) :=
  PT.imp (pt_chain ho ho' ha hb hc hm) fun _ _ _ h => tE_ch hd hd' (tB_of h)
/-! ### tests -/
def andT (f g : M Bool) : M Bool := bnd f fun b => if b then g else ret false
def orT (f g : M Bool) : M Bool := bnd f fun b => if b then ret true else g
def notT (f : M Bool) : M Bool := bnd f fun b => ret !b
variable {p q : M Bool} {rest : List Expr}
theorem dt_and (ha : PT X a (tT X.K W p)) (hb : PW X (.BoolOp .And (b :: rest) pos) (tT X.K W q)) : PW X (.BoolOp .And (a :: b :: rest) pos) (tT X.K W (andT p q)) := by
  refine PW.imp (pw_and ha hb) fun σ H Q h => ?_
  obtain ⟨ow, E, rr, z, hz, k⟩ := h
  refine tT_bnd rr hz (fun c fs E1 e => by subst e; exact k) fun d E1 h1 ow1 H1 R1 S1 => ?_
  cases d with
  | true =>
    refine ifT ⟨ow1, E1, R1, z, h1, ?_⟩
    cases z with
    | ok b E2 => exact fun ow2 H2 R2 S2 => k ow2 H2 R2 (S1.trans S2)
    | ex c fs E2 => exact fun ow2 H2 cls dv S2 x => k ow2 H2 cls dv (S1.trans S2) x
  | false =>
    have e := Option.some.inj h1
    subst e
    exact k ow1 H1 R1 S1
theorem dt_or (ha : PT X a (tT X.K W p)) (hb : PW X (.BoolOp .Or (b :: rest) pos) (tT X.K W q)) : PW X (.BoolOp .Or (a :: b :: rest) pos) (tT X.K W (orT p q)) := by
  refine PW.imp (pw_or ha hb) fun σ H Q h => ?_
  obtain ⟨ow, E, rr, z, hz, k⟩ := h
  refine tT_bnd rr hz (fun c fs E1 e => by subst e; exact k) fun d E1 h1 ow1 H1 R1 S1 => ?_
  cases d with
  | true =>
    have e := Option.some.inj h1
    subst e
    exact k ow1 H1 R1 S1
  | false =>
    refine ⟨ow1, E1, R1, z, h1, ?_⟩
    cases z with
    | ok b E2 => exact fun ow2 H2 R2 S2 => k ow2 H2 R2 (S1.trans S2)
    | ex c fs E2 => exact fun ow2 H2 cls dv S2 x => k ow2 H2 cls dv (S1.trans S2) x
theorem dt_not (ha : PT X a (tT X.K W p)) : PT X (.UnaryOp .Not a pos) (tT X.K W (notT p)) := by
  refine PT.imp (pt_not ha) fun σ H Q h => ?_
  obtain ⟨ow, E, rr, z, hz, k⟩ := h
  refine tT_bnd rr hz (fun c fs E1 e => by subst e; exact k) fun d E1 h1 ow1 H1 R1 S1 => ?_
  have e := Option.some.inj h1
  subst e
  exact k ow1 H1 R1 S1
/-! .. as values -/
def andV (f g : M PyData) : M PyData := bnd (asB f) fun b => if b then g else ret (.bool false)
def orV (f g : M PyData) : M PyData := bnd (asB f) fun b => if b then ret (.bool true) else g
def notV (f : M PyData) : M PyData := bnd (asB f) fun b => ret (.bool !b)
theorem bnd_assoc {α β γ : Type} (m : M α) (k : α → M β) (l : β → M γ) : bnd (bnd m k) l = bnd m fun a => bnd (k a) l := by
  funext E
  unfold bnd
  cases m E with
  | none => rfl
  | some r =>
    cases r with
    | ok a E1 => rfl
    | ex c fs E1 => rfl
theorem tE_asB {β : Type} {k : Bool → M β} {ow : Ow} {E : En} {z : Rz β} (rr : R K ow E σ H) (hz : bnd (asB f) k E = some z) (hx : ∀ c fs E1, z = .ex c fs E1 → ∀ ow' H' cls dv, Stp ow ow' H H' → XcAt K (frz ow' H') cls dv c fs → W cls dv H')
    (ho : ∀ b E1, k b E1 = some z → ∀ ow' H', R K ow' E1 σ H' → Stp ow ow' H H' → Q (.bl b) H') : tE K W f σ H Q := by
  unfold asB at hz
  rw [bnd_assoc] at hz
  refine tE_bnd rr hz hx fun d E1 h1 ow1 H1 v R1 S1 q1 => ?_
  cases d with
  | bool b =>
    cases q1
    exact ho b E1 h1 ow1 H1 R1 S1
  | _ => cases h1
theorem de_and (ha : PE X a (tE X.K W f)) (hb : PE X (.BoolOp .And (b :: rest) pos) (tE X.K W g)) : PE X (.BoolOp .And (a :: b :: rest) pos) (tE X.K W (andV f g)) := by
  refine PE.imp (pe_and ha hb) fun σ H Q h => ?_
  obtain ⟨ow, E, rr, z, hz, k⟩ := h
  refine tE_asB rr hz (fun c fs E1 e => by subst e; exact k) fun d E1 h1 ow1 H1 R1 S1 => ⟨d, rfl, ?_⟩
  cases d with
  | true =>
    refine ifT ⟨ow1, E1, R1, z, h1, ?_⟩
    cases z with
    | ok b E2 => exact fun ow2 H2 v R2 S2 => k ow2 H2 v R2 (S1.trans S2)
    | ex c fs E2 => exact fun ow2 H2 cls dv S2 x => k ow2 H2 cls dv (S1.trans S2) x
  | false =>
    have e := Option.some.inj h1
    subst e
    exact k ow1 H1 _ R1 S1 (.bl false)
theorem de_or (ha : PE X a (tE X.K W f)) (hb : PE X (.BoolOp .Or (b :: rest) pos) (tE X.K W g)) : PE X (.BoolOp .Or (a :: b :: rest) pos) (tE X.K W (orV f g)) := by
  refine PE.imp (pe_or ha hb) fun σ H Q h => ?_
  obtain ⟨ow, E, rr, z, hz, k⟩ := h
  refine tE_asB rr hz (fun c fs E1 e => by subst e; exact k) fun d E1 h1 ow1 H1 R1 S1 => ⟨d, rfl, ?_⟩
  cases d with
  | true =>
    have e := Option.some.inj h1
    subst e
    exact k ow1 H1 _ R1 S1 (.bl true)
  | false =>
    refine ⟨ow1, E1, R1, z, h1, ?_⟩
    cases z with
    | ok b E2 => exact fun ow2 H2 v R2 S2 => k ow2 H2 v R2 (S1.trans S2)
    | ex c fs E2 => exact fun ow2 H2 cls dv S2 x => k ow2 H2 cls dv (S1.trans S2) x
theorem de_not (ha : PE X a (tE X.K W f)) : PE X (.UnaryOp .Not a pos) (tE X.K W (notV f)) := by
  refine PE.imp (pe_not ha) fun σ H Q h => ?_
  obtain ⟨ow, E, rr, z, hz, k⟩ := h
  refine tE_asB rr hz (fun c fs E1 e => by subst e; exact k) fun d E1 h1 ow1 H1 R1 S1 => ⟨d, rfl, ?_⟩
  have e := Option.some.inj h1
  subst e
  exact k ow1 H1 _ R1 S1 (.bl _)
def ifE (c : M Bool) (f g : M PyData) : M PyData := bnd c fun b => if b then f else g
theorem de_if {c : Expr} (hc : PT X c (tT X.K W p)) (ha : PE X a (tE X.K W f)) (hb : PE X b (tE X.K W g)) : PE X (.IfExp c a b pos) (tE X.K W (ifE p f g)) := by
  refine PE.imp (pe_ifExp hc ha hb) fun σ H Q h => ?_
  obtain ⟨ow, E, rr, z, hz, k⟩ := h
  refine tT_bnd rr hz (fun c fs E1 e => by subst e; exact k) fun d E1 h1 ow1 H1 R1 S1 => ?_
  cases d with
  | true =>
    refine ifT ⟨ow1, E1, R1, z, h1, ?_⟩
    cases z with
    | ok b E2 => exact fun ow2 H2 v R2 S2 => k ow2 H2 v R2 (S1.trans S2)
    | ex c fs E2 => exact fun ow2 H2 cls dv S2 x => k ow2 H2 cls dv (S1.trans S2) x
  | false =>
    refine ⟨ow1, E1, R1, z, h1, ?_⟩
    cases z with
    | ok b E2 => exact fun ow2 H2 v R2 S2 => k ow2 H2 v R2 (S1.trans S2)
    | ex c fs E2 => exact fun ow2 H2 cls dv S2 x => k ow2 H2 cls dv (S1.trans S2) x
/-! ### names and constants -/
theorem de_k {e : Expr} {v : V} {d : PyData} (h : PE X e (tC v)) (hd : ∀ H, Dq X.K H v d) : PE X e (tE X.K W (ret d)) := by
  refine PE.imp h fun σ H Q h => ?_
  obtain ⟨ow, E, rr, z, hz, k⟩ := h
  have e := Option.some.inj hz
  subst e
  exact k ow H v rr (Stp.refl _ _) (hd _)
theorem de_int {i j} : PE X (.Constant (.int i) j pos) (tE X.K W (ret (.int i))) := de_k pe_int fun _ => .int _
theorem de_bl {i j} : PE X (.Constant (.bool i) j pos) (tE X.K W (ret (.bool i))) := de_k pe_bl fun _ => .bl _
theorem de_non {j} : PE X (.Constant .none j pos) (tE X.K W (ret .none)) := de_k pe_non fun _ => .non
theorem de_str {i j} : PE X (.Constant (.str i) j pos) (tE X.K W (ret (.str i))) := de_k pe_str fun _ => .str _
/-- a name: a list that the slot owned is frozen -/
def getV (i : Nat) : M PyData := fun E => match E[i]? with
  | some (.dat d) => some (.ok d E)
  | some (.own ds) => some (.ok (.list ds) (E.set i (.dat (.list ds))))
  | _ => none
def cede (ow : Ow) (i : Nat) : Ow := fun b => if ow b = some (i + 1) then none else ow b
theorem cede_none {ow : Ow} {i : Nat} {b : Addr} (h : ow b = none) : cede ow i b = none := by
  unfold cede
  rw [if_neg (by rw [h]; simp), h]
theorem cede_zero {ow : Ow} {i : Nat} {b : Addr} : cede ow i b = some 0 ↔ ow b = some 0 := by
  unfold cede
  by_cases h : ow b = some (i + 1)
  · rw [if_pos h, h]
    simp
  · rw [if_neg h]
theorem cede_ne {ow : Ow} {i n : Nat} {b : Addr} (h : ow b = some n) (hn : n ≠ i + 1) : cede ow i b = some n := by
  unfold cede
  rw [if_neg (by rw [h]; simpa using hn), h]
theorem Stp.cedes (ow : Ow) (i : Nat) (H : Hp) : Stp ow (cede ow i) H H := ⟨fun _ _ h e => ⟨h, cede_none e⟩, fun _ _ h e => ⟨h, cede_zero.mpr e⟩, fun _ e => cede_zero.mp e⟩
theorem R.cedes {ow : Ow} {E : En} (r : R K ow E σ H) {i : Nat} {s : Sk} (h : ∀ o, σ[i]? = some o → SkR K (cede ow i) H i s o) : R K (cede ow i) (E.set i s) σ H := by
  have f : Same (frz ow H) (frz (cede ow i) H) := (Stp.cedes ow i H).same
  refine ⟨fun b e => r.tr b fun z => e (cede_none z), by simp [r.ln], fun j s' o h1 h2 => ?_⟩
  by_cases e : i = j
  · subst e
    by_cases hl : i < E.length
    · rw [List.getElem?_set_self hl] at h1
      cases h1
      exact h o h2
    · rw [List.getElem?_eq_none (by simpa using Nat.le_of_not_lt hl)] at h1
      cases h1
  · rw [List.getElem?_set_ne e] at h1
    have q := r.sl j s' o h1 h2
    cases s' with
    | un => trivial
    | dat d =>
      obtain ⟨v, e1, z⟩ := q
      exact ⟨v, e1, Dq.same f _ _ z⟩
    | own ds =>
      obtain ⟨a, vs, e1, e2, e3, z⟩ := q
      exact ⟨a, vs, e1, cede_ne e2 (by omega), e3, Dq.sameAll f _ _ z⟩
    | drw p st =>
      obtain ⟨e1, ⟨e2, e3, e4⟩, z⟩ := q
      exact ⟨e1, ⟨cede_ne e2 (by omega), cede_ne e3 (by omega), cede_ne e4 (by omega)⟩, z⟩
    | tab p q =>
      obtain ⟨e1, ps, e2, z⟩ := q
      exact ⟨cede_ne e1 (by omega), ps, e2, z.same f⟩
theorem de_var {i : Nat} {x : Str} (h : PE X (.Name x pos) (tVar i)) : PE X (.Name x pos) (tE X.K W (getV i)) := by
  refine PE.imp h fun σ H Q h => ?_
  obtain ⟨ow, E, rr, z, hz, k⟩ := h
  unfold getV at hz
  cases q : E[i]? with
  | none =>
    rw [q] at hz
    cases hz
  | some s =>
    obtain ⟨hl, _⟩ := List.getElem?_eq_some_iff.mp q
    have hl2 : i < σ.length := by rw [← rr.ln]; exact hl
    have ho : σ[i]? = some σ[i] := List.getElem?_eq_getElem hl2
    have sr := rr.sl i s _ q ho
    rw [q] at hz
    cases s with
    | un => cases hz
    | drw p st => cases hz
    | tab p q => cases hz
    | dat d =>
      have e := Option.some.inj hz
      subst e
      obtain ⟨v, e1, z1⟩ := sr
      exact ⟨v, by rw [ho, e1], k ow H v rr (Stp.refl _ _) z1⟩
    | own ds =>
      have e := Option.some.inj hz
      subst e
      obtain ⟨a, vs, e1, e2, e3, z1⟩ := sr
      have na : cede ow i a = none := by
        unfold cede
        rw [if_pos e2]
      have dl : Dq X.K (frz (cede ow i) H) (.ref a) (.list ds) := .lst (.inl (.inl (by rw [frz_at na]; exact e3))) ((Stp.cedes ow i H).dqs z1)
      refine ⟨.ref a, by rw [ho, e1], k (cede ow i) H (.ref a) (rr.cedes fun o ho' => ?_) (Stp.cedes ow i H) dl⟩
      rw [ho] at ho'
      cases ho'
      exact ⟨.ref a, e1, dl⟩
/-! ### arguments, tuples, lists -/
def nilA : M (List PyData) := ret []
def consA (f : M PyData) (g : M (List PyData)) : M (List PyData) := bnd f fun d => bnd g fun ds => ret (d :: ds)
variable {e : Expr} {es : List Expr} {fa : M (List PyData)}
theorem da_nil : PA X [] (tA X.K W nilA) := by
  refine PA.imp pa_nil fun σ H Q h => ?_
  obtain ⟨ow, E, rr, z, hz, k⟩ := h
  have e := Option.some.inj hz
  subst e
  exact k ow H [] rr (Stp.refl _ _) .nil
theorem da_cons (ha : PE X e (tE X.K W f)) (hr : PA X es (tA X.K W fa)) (hs : starEach (e :: es) X.env = (false, eval e X.env) :: starEach es X.env := by rfl) : PA X (e :: es) (tA X.K W (consA f fa)) := by
  refine PA.imp (pa_cons ha hr hs) fun σ H Q h => ?_
  obtain ⟨ow, E, rr, z, hz, k⟩ := h
  refine tE_bnd rr hz (fun c fs E1 e => by subst e; exact k) fun d E1 h1 ow1 H1 v R1 S1 q1 => ?_
  refine tA_bnd R1 h1 (fun c fs E1 e ow' H' cls dv s x => by subst e; exact k ow' H' cls dv (S1.trans s) x) fun ds E2 h2 ow2 H2 vs R2 S2 q2 => ?_
  have e := Option.some.inj h2
  subst e
  exact k ow2 H2 _ R2 (S1.trans S2) (.cons (S2.dq q1) q2)
def tupE (f : M (List PyData)) : M PyData := bnd f fun ds => if ds.length ≤ sizeLine then ret (.tuple ds) else die
def lstE (f : M (List PyData)) : M (List PyData) := bnd f fun ds => if ds.length ≤ sizeLine then ret ds else die
theorem lim_some {α : Type} {c : Prop} [Decidable c] {m : M α} {E : En} {z : Rz α} (h : (if c then m else die) E = some z) : c ∧ m E = some z := by
  by_cases hc : c
  · rw [if_pos hc] at h
    exact ⟨hc, h⟩
  · rw [if_neg hc] at h
    cases h
theorem de_tup {x1} (h : PA X es (tA X.K W fa)) : PE X (.Tuple es x1 pos) (tE X.K W (tupE fa)) := by
  refine PE.imp (pe_tupF h) fun σ H Q h => ?_
  obtain ⟨ow, E, rr, z, hz, k⟩ := h
  refine tA_bnd rr hz (fun c fs E1 e => by subst e; exact k) fun ds E1 h1 ow1 H1 vs R1 S1 q1 => ?_
  obtain ⟨hl, h1⟩ := lim_some h1
  have e := Option.some.inj h1
  subst e
  refine ⟨by rw [q1.length]; exact hl, fun p o hp hd => k ow1 _ _ (R1.new hp) (S1.trans (Stp.new hp)) ?_⟩
  exact .tup (.inl ⟨o, frz_new (R1.fresh hp), hd⟩) ((Stp.new hp).dqs q1)
theorem df_lst (h : PA X es (tA X.K W fa)) : PE X (.List es pos) (tF X.K W (lstE fa)) := by
  refine PE.imp (pe_lst h) fun σ H Q h => ?_
  obtain ⟨ow, E, rr, z, hz, k⟩ := h
  refine tA_bnd rr hz (fun c fs E1 e => by subst e; exact k) fun ds E1 h1 ow1 H1 vs R1 S1 q1 => ?_
  obtain ⟨hl, h1⟩ := lim_some h1
  have e := Option.some.inj h1
  subst e
  exact ⟨by rw [q1.length]; exact hl, fun p hp => k ow1 _ _ _ hp R1 S1 q1⟩
/-- a new list as data -/
def frzE (f : M (List PyData)) : M PyData := bnd f fun ds => ret (.list ds)
theorem de_frz (h : PE X e (tF X.K W fa)) : PE X e (tE X.K W (frzE fa)) := by
  refine PE.imp h fun σ H Q h => ?_
  obtain ⟨ow, E, rr, z, hz, k⟩ := h
  refine tF_bnd rr hz (fun c fs E1 e => by subst e; exact k) fun ds E1 h1 ow1 H1 a vs hn R1 S1 q1 => ?_
  have e := Option.some.inj h1
  subst e
  refine k ow1 _ _ (R1.new hn) (S1.trans (Stp.new hn)) ?_
  exact .lst (.inl (.inl (frz_new (R1.fresh hn)))) ((Stp.new hn).dqs q1)
/-! ### sequences that are read at once -/
structure SqAt (K : PySem.W.Frag) (ow : Ow) (H : Hp) (a : Addr) (t : Bool) (vs : List V) : Prop where
  l : t = false → SqL K H a vs
  t : t = true → SqD K (frz ow H) a vs
theorem SqAt.or {ow : Ow} {a : Addr} {t : Bool} {vs : List V} (h : SqAt K ow H a t vs) : SqL K H a vs ∨ SqT K H a vs := by
  cases t with
  | false => exact .inl (h.l rfl)
  | true => exact .inr (Same.seqT frz_sub (h.t rfl).sq)
def tQ (K : PySem.W.Frag) (W : XK) (f : M (Bool × List PyData)) : TE := fun σ H Q => ∃ ow E, R K ow E σ H ∧ ∃ r, f E = some r ∧
  match r with
  | .ok z E' => ∀ ow' H' a vs, R K ow' E' σ H' → Stp ow ow' H H' → SqAt K ow' H' a z.1 vs → DqAll K (frz ow' H') vs z.2 → Q (.ref a) H'
  | .ex c fs _ => ∀ ow' H' cls dv, Stp ow ow' H H' → XcAt K (frz ow' H') cls dv c fs → W cls dv H'
theorem tQ_bnd {β : Type} {f : M (Bool × List PyData)} {k : Bool × List PyData → M β} {r : Rz β} {ow : Ow} {E : En} (rr : R K ow E σ H) (h : bnd f k E = some r) {Q : VK}
    (hx : ∀ c fs E1, r = .ex c fs E1 → ∀ ow' H' cls dv, Stp ow ow' H H' → XcAt K (frz ow' H') cls dv c fs → W cls dv H')
    (ho : ∀ d E1, k d E1 = some r → ∀ ow' H' a vs, R K ow' E1 σ H' → Stp ow ow' H H' → SqAt K ow' H' a d.1 vs → DqAll K (frz ow' H') vs d.2 → Q (.ref a) H') : tQ K W f σ H Q := by
  rcases bnd_some h with ⟨d, E1, h1, h2⟩ | ⟨c, fs, E1, h1, h2⟩
  · exact ⟨ow, E, rr, _, h1, fun ow' H' a vs r' s' z y => ho d E1 h2 ow' H' a vs r' s' z y⟩
  · exact ⟨ow, E, rr, _, h1, fun ow' H' cls dv s' z => hx c fs E1 h2 ow' H' cls dv s' z⟩
def sqO : PyData → Option (Bool × List PyData)
  | .list ds => some (false, ds)
  | .tuple ds => some (true, ds)
  | _ => none
def sqE (f : M PyData) : M (Bool × List PyData) := bnd f fun d => ofO (sqO d)
theorem Dq.sq {ow : Ow} {v : V} {d : PyData} {z : Bool × List PyData} (h : Dq K (frz ow H) v d) (e : sqO d = some z) : ∃ a vs, v = .ref a ∧ SqAt K ow H a z.1 vs ∧ DqAll K (frz ow H) vs z.2 := by
  cases d with
  | list ds =>
    have e := Option.some.inj e
    subst e
    cases h with
    | lst hs ha => exact ⟨_, _, rfl, ⟨fun _ => Same.seqL frz_sub hs, fun z => nomatch z⟩, ha⟩
  | tuple ds =>
    have e := Option.some.inj e
    subst e
    cases h with
    | tup hs ha => exact ⟨_, _, rfl, ⟨fun z => (nomatch z), fun _ => hs⟩, ha⟩
  | _ => cases e
theorem dq_e (h : PE X e (tE X.K W f)) : PE X e (tQ X.K W (sqE f)) := by
  refine PE.imp h fun σ H Q h => ?_
  obtain ⟨ow, E, rr, z, hz, k⟩ := h
  refine tE_bnd rr hz (fun c fs E1 e => by subst e; exact k) fun d E1 h1 ow1 H1 v R1 S1 q1 => ?_
  obtain ⟨w, hw, rfl⟩ := ofO_some h1
  obtain ⟨a, vs, rfl, h2, h3⟩ := q1.sq hw
  exact k ow1 H1 a vs R1 S1 h2 h3
def sqF (f : M (List PyData)) : M (Bool × List PyData) := bnd f fun ds => ret (false, ds)
theorem dq_f (h : PE X e (tF X.K W fa)) : PE X e (tQ X.K W (sqF fa)) := by
  refine PE.imp h fun σ H Q h => ?_
  obtain ⟨ow, E, rr, z, hz, k⟩ := h
  refine tF_bnd rr hz (fun c fs E1 e => by subst e; exact k) fun ds E1 h1 ow1 H1 a vs hn R1 S1 q1 => ?_
  have e := Option.some.inj h1
  subst e
  exact k ow1 _ a vs (R1.new hn) (S1.trans (Stp.new hn)) ⟨fun _ => .inl (.inl upd_same), fun z => nomatch z⟩ ((Stp.new hn).dqs q1)
/-- a name: a list that the slot owns, looked at -/
def lookV (i : Nat) : M (Bool × List PyData) := fun E => match E[i]? with
  | some (.dat d) => (sqO d).map fun z => .ok z E
  | some (.own ds) => some (.ok (false, ds) E)
  | _ => none
theorem dq_var {i : Nat} {x : Str} (h : PE X (.Name x pos) (tVar i)) : PE X (.Name x pos) (tQ X.K W (lookV i)) := by
  refine PE.imp h fun σ H Q h => ?_
  obtain ⟨ow, E, rr, z, hz, k⟩ := h
  unfold lookV at hz
  cases q : E[i]? with
  | none =>
    rw [q] at hz
    cases hz
  | some s =>
    obtain ⟨hl, _⟩ := List.getElem?_eq_some_iff.mp q
    have hl2 : i < σ.length := by rw [← rr.ln]; exact hl
    have ho : σ[i]? = some σ[i] := List.getElem?_eq_getElem hl2
    have sr := rr.sl i s _ q ho
    rw [q] at hz
    cases s with
    | un => cases hz
    | drw p st => cases hz
    | tab p q => cases hz
    | dat d =>
      obtain ⟨v, e1, z1⟩ := sr
      cases hw : sqO d with
      | none =>
        simp only [hw] at hz
        cases hz
      | some w =>
        simp only [hw] at hz
        have e := Option.some.inj hz
        subst e
        obtain ⟨a, vs, rfl, h2, h3⟩ := z1.sq hw
        exact ⟨.ref a, by rw [ho, e1], k ow H a vs rr (Stp.refl _ _) h2 h3⟩
    | own ds =>
      have e := Option.some.inj hz
      subst e
      obtain ⟨a, vs, e1, e2, e3, z1⟩ := sr
      exact ⟨.ref a, by rw [ho, e1], k ow H a vs rr (Stp.refl _ _) ⟨fun _ => .inl (.inl e3), fun z => nomatch z⟩ z1⟩
end
end Sa

set_option maxHeartbeats 4000000
/-! The data layer: operators, built-in functions, methods. -/
namespace Sa
open PySem PySem.Spec PyProof.Rows L2 He NdefX
theorem lim_of {α : Type} {c : Prop} [Decidable c] {a z : α} (h : (if c then some a else none) = some z) : c ∧ a = z := by
  by_cases hc : c
  · rw [if_pos hc] at h
    exact ⟨hc, Option.some.inj h⟩
  · rw [if_neg hc] at h
    cases h
section
variable {X : Cx} {K : PySem.W.Frag}
theorem own_none {ow : Ow} {H : Hp} {p : Addr} (tr : ∀ b, ow b ≠ none → H b ≠ none) (h : H p = none) : ow p = none := by
  cases q : ow p with
  | none => rfl
  | some n => exact absurd h (tr p (by rw [q]; simp))
/-- a new tuple of data -/
theorem TupNew.of {ow : Ow} {H : Hp} {xs : List V} {ds : List PyData} {Q : VK} (tr : ∀ b, ow b ≠ none → H b ≠ none) (h : DqAll K (frz ow H) xs ds) (k : ∀ v H', Same H H' → Dq K (frz ow H') v (.tuple ds) → Q v H') : TupNew xs H Q := fun p o hp hd =>
  k _ _ (Same.new hp) (.tup (.inl ⟨o, frz_new (own_none tr hp), hd⟩) ((Stp.new hp).dqs h))
theorem lst_new {ow : Ow} {H : Hp} {xs : List V} {ds : List PyData} {Q : VK} (tr : ∀ b, ow b ≠ none → H b ≠ none) (h : DqAll K (frz ow H) xs ds) (k : ∀ v H', Same H H' → Dq K (frz ow H') v (.list ds) → Q v H') : ∀ p, H p = none → Q (.ref p) (upd H p (.lst xs)) := fun p hp =>
  k _ _ (Same.new hp) (.lst (.inl (.inl (frz_new (own_none tr hp)))) ((Stp.new hp).dqs h))
/-! ### + -/
def addD : PyData → PyData → Option PyData
  | .int a, .int b => some (.int (a + b))
  | .str a, .str b => if a.length + b.length ≤ sizeLine then some (.str (a ++ b)) else none
  | .list xs, .list ys => if xs.length + ys.length ≤ sizeLine then some (.list (xs ++ ys)) else none
  | .tuple xs, .tuple ys => if xs.length + ys.length ≤ sizeLine then some (.tuple (xs ++ ys)) else none
  | _, _ => none
def rAddA (K : PySem.W.Frag) : R2 := fun x y H Q => rI0 (fun i j => .int (i + j)) x y H Q ∨ (∃ i j, x = .str i ∧ y = .str j ∧ i.length + j.length ≤ sizeLine ∧ Q (.str (i ++ j)) H) ∨ rCatL K x y H Q ∨ rCatF K x y H Q
theorem op_addA : OpR X (binaryOp .Add) (rAddA X.K) := op_add.or (op_add_str.or (op_catL.or op_catF))
theorem addD_ok : OpD K (rAddA K) addD := by
  intro ow H x y d e z Q tr hx hy hz k
  unfold addD at hz
  split at hz
  · cases hx
    cases hy
    have e := Option.some.inj hz
    subst e
    exact .inl ⟨_, _, rfl, rfl, k _ H (fun _ _ h => h) (.int _)⟩
  · cases hx
    cases hy
    obtain ⟨hl, e⟩ := lim_of hz
    subst e
    exact .inr (.inl ⟨_, _, rfl, rfl, hl, k _ H (fun _ _ h => h) (.str _)⟩)
  · obtain ⟨hl, e⟩ := lim_of hz
    subst e
    cases hx with
    | lst hs ha =>
      cases hy with
      | lst ht hb => exact .inr (.inr (.inl ⟨_, _, _, _, rfl, rfl, Same.seqL frz_sub hs, Same.seqL frz_sub ht, by rw [ha.length, hb.length]; exact hl, lst_new tr (ha.append hb) k⟩))
  · obtain ⟨hl, e⟩ := lim_of hz
    subst e
    cases hx with
    | tup hs ha =>
      cases hy with
      | tup ht hb =>
        refine .inr (.inr (.inr ⟨_, _, _, _, rfl, rfl, Same.seqT frz_sub hs.sq, Same.seqT frz_sub ht.sq, by rw [ha.length, hb.length]; exact hl, fun z => ?_, fun z => ?_, TupNew.of tr (ha.append hb) k⟩))
        · subst z
          cases ha
          exact k _ H (fun _ _ h => h) (.tup ht hb)
        · subst z
          cases hb
          rw [List.append_nil] at k
          exact k _ H (fun _ _ h => h) (.tup hs ha)
  · cases hz
/-! ### other arithmetic -/
def iiD (c : Int → Int → Bool) (g : Int → Int → PyData) : PyData → PyData → Option PyData
  | .int a, .int b => if c a b = true then some (g a b) else none
  | _, _ => none
theorem iiD_some {c : Int → Int → Bool} {g : Int → Int → PyData} {d e z : PyData} (h : iiD c g d e = some z) : ∃ a b, d = .int a ∧ e = .int b ∧ c a b = true ∧ z = g a b := by
  unfold iiD at h
  split at h
  · obtain ⟨h1, h2⟩ := lim_of h
    exact ⟨_, _, rfl, rfl, h1, h2.symm⟩
  · cases h
theorem iiD_ok {C : Int → Int → Prop} {c : Int → Int → Bool} {g : Int → Int → PyData} {gv : Int → Int → V} (hc : ∀ i j, c i j = true → C i j) (hg : ∀ i j H, Dq K H (gv i j) (g i j)) : OpD K (rI C gv) (iiD c g) := by
  intro ow H x y d e z Q tr hx hy hz k
  obtain ⟨a, b, rfl, rfl, h1, rfl⟩ := iiD_some hz
  cases hx
  cases hy
  exact ⟨_, _, rfl, rfl, hc _ _ h1, k _ H (fun _ _ h => h) (hg _ _ _)⟩
theorem iiD0_ok {c : Int → Int → Bool} {g : Int → Int → PyData} {gv : Int → Int → V} (hg : ∀ i j H, Dq K H (gv i j) (g i j)) : OpD K (rI0 gv) (iiD c g) := by
  intro ow H x y d e z Q tr hx hy hz k
  obtain ⟨a, b, rfl, rfl, h1, rfl⟩ := iiD_some hz
  cases hx
  cases hy
  exact ⟨_, _, rfl, rfl, k _ H (fun _ _ h => h) (hg _ _ _)⟩
abbrev subD : PyData → PyData → Option PyData := iiD (fun _ _ => true) fun i j => .int (i - j)
theorem subD_ok : OpD K (rI0 fun i j => .int (i - j)) subD := iiD0_ok fun _ _ _ => .int _
def mulC (i j : Int) : Bool := (decide (-(2 ^ 64) < i) && decide (i < 2 ^ 64)) || (decide (-(2 ^ 64) < j) && decide (j < 2 ^ 64))
abbrev mulD : PyData → PyData → Option PyData := iiD mulC fun i j => .int (i * j)
theorem mulD_ok : OpD K (rI CMul fun i j => .int (i * j)) mulD := iiD_ok (fun i j h => by
  unfold mulC at h
  rw [Bool.or_eq_true, Bool.and_eq_true, Bool.and_eq_true, decide_eq_true_eq, decide_eq_true_eq, decide_eq_true_eq, decide_eq_true_eq] at h
  exact h) fun _ _ _ => .int _
abbrev modD : PyData → PyData → Option PyData := iiD (fun _ j => decide (j ≠ 0)) fun i j => .int (i.fmod j)
theorem modD_ok : OpD K (rI (fun _ j => j ≠ 0) fun i j => .int (i.fmod j)) modD := iiD_ok (fun _ _ h => of_decide_eq_true h) fun _ _ _ => .int _
abbrev divD : PyData → PyData → Option PyData := iiD (fun _ j => decide (j ≠ 0) && decide (j.natAbs < 1073741824)) fun i j => .int (i.fdiv j)
theorem divD_ok : OpD K (rI CDivN fun i j => .int (i.fdiv j)) divD := iiD_ok (fun _ _ h => by
  rw [Bool.and_eq_true, decide_eq_true_eq, decide_eq_true_eq] at h
  exact h) fun _ _ _ => .int _
abbrev powD : PyData → PyData → Option PyData := iiD (fun i j => decide (0 ≤ j) && (decide (j ≤ 1000000) && decide (i.natAbs < 2 ^ 64))) fun i j => .int (i ^ j.toNat)
theorem powD_ok : OpD K (rI CPow fun i j => .int (i ^ j.toNat)) powD := iiD_ok (fun _ _ h => by
  rw [Bool.and_eq_true, Bool.and_eq_true, decide_eq_true_eq, decide_eq_true_eq, decide_eq_true_eq] at h
  exact h) fun _ _ _ => .int _
/-! ### order -/
def ordD (p : Int → Int → Bool) (q : List Nat → List Nat → Bool) : PyData → PyData → Option PyData
  | .int a, .int b => some (.bool (p a b))
  | .str a, .str b => some (.bool (q a.cps.toList b.cps.toList))
  | _, _ => none
theorem ordD_ok {p : Int → Int → Bool} {q : List Nat → List Nat → Bool} : OpD K (fun x y H Q => rI0 (fun i j => .bl (p i j)) x y H Q ∨ ∃ i j, x = .str i ∧ y = .str j ∧ Q (.bl (q i.cps.toList j.cps.toList)) H) (ordD p q) := by
  intro ow H x y d e z Q tr hx hy hz k
  unfold ordD at hz
  split at hz
  · cases hx
    cases hy
    have e := Option.some.inj hz
    subst e
    exact .inl ⟨_, _, rfl, rfl, k _ H (fun _ _ h => h) (.bl _)⟩
  · cases hx
    cases hy
    have e := Option.some.inj hz
    subst e
    exact .inr ⟨_, _, rfl, rfl, k _ H (fun _ _ h => h) (.bl _)⟩
  · cases hz
abbrev ltD := ordD (fun i j => decide (i < j)) fun a b => decide (a < b)
abbrev leD := ordD (fun i j => decide (i ≤ j)) fun a b => !decide (b < a)
abbrev gtD := ordD (fun i j => decide (j < i)) fun a b => decide (b < a)
abbrev geD := ordD (fun i j => decide (j ≤ i)) fun a b => !decide (a < b)
theorem op_ltA : OpR X (compareOp .Lt) (fun x y H Q => rI0 (fun i j => .bl (decide (i < j))) x y H Q ∨ ∃ i j, x = .str i ∧ y = .str j ∧ Q (.bl (decide (i.cps.toList < j.cps.toList))) H) := op_lt.or op_lt_str
theorem op_leA : OpR X (compareOp .LtE) (fun x y H Q => rI0 (fun i j => .bl (decide (i ≤ j))) x y H Q ∨ ∃ i j, x = .str i ∧ y = .str j ∧ Q (.bl (!decide (j.cps.toList < i.cps.toList))) H) := op_le.or op_le_str
theorem op_gtA : OpR X (compareOp .Gt) (fun x y H Q => rI0 (fun i j => .bl (decide (j < i))) x y H Q ∨ ∃ i j, x = .str i ∧ y = .str j ∧ Q (.bl (decide (j.cps.toList < i.cps.toList))) H) := op_gt.or op_gt_str
theorem op_geA : OpR X (compareOp .GtE) (fun x y H Q => rI0 (fun i j => .bl (decide (j ≤ i))) x y H Q ∨ ∃ i j, x = .str i ∧ y = .str j ∧ Q (.bl (!decide (i.cps.toList < j.cps.toList))) H) := op_ge.or op_ge_str
/-- an operator whose answer is a truth: its operands may be what a slot owns -/
def OpS (K : PySem.W.Frag) (r : R2) (op : PyData → PyData → Option PyData) : Prop := ∀ (H : Hp) (x y : V) (d e z : PyData) (Q : VK), Dq K H x d → Dq K H y e → op d e = some z → (∀ b, z = .bool b → Q (.bl b) H) → r x y H Q
theorem OpS.d {r : R2} {op : PyData → PyData → Option PyData} (h : OpS K r op) : OpD K r op := fun ow H x y d e z Q tr hx hy hz k =>
  h H x y d e z Q (Dq.same frz_sub d x hx) (Dq.same frz_sub e y hy) hz fun b e => k _ H (fun _ _ h => h) (by rw [e]; exact .bl b)
/-! ### == -/
def eqO (d e : PyData) : Option Bool := if SeqAt.shaped d = true ∧ SeqAt.shaped e = true then some (PyData.eqv d e) else match d, e with
  | .tuple xs, .tuple [] => some xs.isEmpty
  | .list xs, .list [] => some xs.isEmpty
  | _, _ => none
def eqD (d e : PyData) : Option PyData := (eqO d e).map .bool
/-- == with an empty one -/
def rNilQ (K : PySem.W.Frag) (neg : Bool) : R2 := fun x y H Q => ∃ a b xs, x = .ref a ∧ y = .ref b ∧ ((SqT K H a xs ∧ SqT K H b []) ∨ (SqL K H a xs ∧ SqL K H b [])) ∧ Q (.bl (if neg then !xs.isEmpty else xs.isEmpty)) H
theorem vals_nil {us : List Value} (r : Vals [] us) : us = [] := by
  cases r
  rfl
theorem emp_len {xs : List V} {us : List Value} (r : Vals xs us) : us.isEmpty = xs.isEmpty := by
  cases r <;> rfl
theorem op_eqNil (hu : X.A.units + 64 < cLine) : OpR X (compareOp .Eq) (rNilQ X.K false) := by
  rintro pins s σ H x y v u Q J rx ry ⟨a, b, xs, rfl, rfl, ⟨ha, hb⟩ | ⟨ha, hb⟩, q⟩
  · cases rx
    cases ry
    obtain ⟨its, r1, p1, _⟩ := J.tuple ha
    obtain ⟨jts, r2, p2, _⟩ := J.tuple hb
    have e := vals_nil r2
    subst e
    refine SeqAt.eq_tupleAt (e := fun _ => true) p1 p2 (by omega) (fun j _ h2 => absurd h2 (by simp)) ⟨.bl xs.isEmpty, H, J, ?_, q⟩
    rw [← emp_len r1]
    show Value.bool _ = Value.bool _
    cases its <;> simp
  · cases rx
    cases ry
    obtain ⟨its, r1, p1, _⟩ := J.list ha
    obtain ⟨jts, r2, p2, _⟩ := J.list hb
    have e := vals_nil r2
    subst e
    have rl : RelV (.bl xs.isEmpty) (.bool its.isEmpty) := by
      rw [emp_len r1]
      exact rfl
    cases its with
    | nil => exact SeqAt.eq_listAt (e := fun _ => true) p1.isList p2.isList rfl (by omega) (fun j h1 _ => absurd h1 (by simp)) ⟨.bl xs.isEmpty, H, J, rl, q⟩
    | cons w ws => exact SeqAt.eq_list_lengthsAt p1.isList p2.isList (by simp) (by omega) ⟨.bl xs.isEmpty, H, J, rl, q⟩
def rEqA (K : PySem.W.Frag) : R2 := fun x y H Q => rEqD K x y H Q ∨ rNilQ K false x y H Q
theorem op_eqA (hu : X.A.units + 64 < cLine) : OpR X (compareOp .Eq) (rEqA X.K) := (op_eqD hu).or (op_eqNil hu)
theorem eqv_nil (xs : List PyData) : PyData.eqv (.tuple xs) (.tuple []) = xs.isEmpty := by
  cases xs <;> rfl
theorem dq_nil {H : Hp} {xs : List V} {ds : List PyData} (h : DqAll K H xs ds) : xs.isEmpty = ds.isEmpty := by
  cases h <;> rfl
theorem dq_nil' {H : Hp} {xs : List V} (h : DqAll K H xs []) : xs = [] := by
  cases h
  rfl
theorem eqD_s : OpS K (rEqA K) eqD := by
  intro H x y d e z Q hx hy hz k
  unfold eqD at hz
  cases ho : eqO d e with
  | none =>
    rw [ho] at hz
    cases hz
  | some b =>
    rw [ho] at hz
    have ez := Option.some.inj hz
    subst ez
    have kb : Q (.bl b) H := k b rfl
    unfold eqO at ho
    by_cases hs : SeqAt.shaped d = true ∧ SeqAt.shaped e = true
    · rw [if_pos hs] at ho
      have eb := Option.some.inj ho
      subst eb
      exact .inl ⟨d, e, Dq.dp d x (SeqAt.canLay_of_shaped hs.1) hx, Dq.dp e y (SeqAt.canLay_of_shaped hs.2) hy, hs.1, hs.2, kb⟩
    · rw [if_neg hs] at ho
      split at ho
      · have eb := Option.some.inj ho
        subst eb
        cases hx with
        | tup h1 h2 =>
          cases hy with
          | tup h3 h4 =>
            have en := dq_nil' h4
            subst en
            rw [← dq_nil h2] at kb
            exact .inr ⟨_, _, _, rfl, rfl, .inl ⟨h1.sq, h3.sq⟩, kb⟩
      · have eb := Option.some.inj ho
        subst eb
        cases hx with
        | lst h1 h2 =>
          cases hy with
          | lst h3 h4 =>
            have en := dq_nil' h4
            subst en
            rw [← dq_nil h2] at kb
            exact .inr ⟨_, _, _, rfl, rfl, .inr ⟨h1, h3⟩, kb⟩
      · cases ho
theorem eqD_ok : OpD K (rEqA K) eqD := eqD_s.d
def neD (d e : PyData) : Option PyData := if SeqAt.shaped d = true ∧ SeqAt.shaped e = true then some (.bool (!PyData.eqv d e)) else none
theorem neD_s : OpS K (rNeD K) neD := by
  intro H x y d e z Q hx hy hz k
  obtain ⟨hs, ez⟩ := lim_of hz
  subst ez
  exact ⟨d, e, Dq.dp d x (SeqAt.canLay_of_shaped hs.1) hx, Dq.dp e y (SeqAt.canLay_of_shaped hs.2) hy, hs.1, hs.2, k _ rfl⟩
theorem neD_ok : OpD K (rNeD K) neD := neD_s.d
/-! ### is -/
def isD : PyData → PyData → Option Bool
  | .none, .none => some true
  | _, .none => some false
  | .bool a, .bool b => some (decide (a = b))
  | _, _ => none
def rIsA (neg : Bool) : R2 := fun x y H Q => (y = .non ∧ Q (.bl (if neg then !decide (x = .non) else decide (x = .non))) H) ∨ ∃ a b, x = .bl a ∧ y = .bl b ∧ Q (.bl (if neg then !decide (a = b) else decide (a = b))) H
theorem op_isA : OpR X (compareOp .Is) (rIsA false) := op_isN.or op_is_bl
theorem op_isnotA : OpR X (compareOp .IsNot) (rIsA true) := op_notN.or op_isnot_bl
def isE (d e : PyData) : Option PyData := (isD d e).map .bool
def isnotE (d e : PyData) : Option PyData := (isD d e).map fun b => .bool (!b)
theorem dq_non {H : Hp} {x : V} {d : PyData} (h : Dq K H x d) : decide (x = .non) = (match d with | .none => true | _ => false) := by
  cases h <;> simp
theorem isD_some {H H' : Hp} {x y : V} {d e : PyData} {b : Bool} (hx : Dq K H x d) (hy : Dq K H y e) (h : isD d e = some b) : (y = .non ∧ decide (x = .non) = b) ∨ ∃ i j, x = .bl i ∧ y = .bl j ∧ decide (i = j) = b := by
  unfold isD at h
  split at h
  · cases hx
    cases hy
    exact .inl ⟨rfl, Option.some.inj h⟩
  · cases hy
    refine .inl ⟨rfl, ?_⟩
    rw [← Option.some.inj h, dq_non hx]
    split
    · rename_i h1
      exact (h1 rfl).elim
    · rfl
  · cases hx
    cases hy
    exact .inr ⟨_, _, rfl, rfl, Option.some.inj h⟩
  · cases h
theorem isE_ok : OpD K (rIsA false) isE := by
  intro ow H x y d e z Q tr hx hy hz k
  unfold isE at hz
  cases ho : isD d e with
  | none =>
    rw [ho] at hz
    cases hz
  | some b =>
    rw [ho] at hz
    have ez := Option.some.inj hz
    subst ez
    have kb : Q (.bl b) H := k _ H (fun _ _ h => h) (.bl b)
    rcases isD_some (H' := H) hx hy ho with ⟨h1, h2⟩ | ⟨i, j, h1, h2, h3⟩
    · exact .inl ⟨h1, by rw [← h2] at kb; exact kb⟩
    · exact .inr ⟨i, j, h1, h2, by rw [← h3] at kb; exact kb⟩
theorem isnotE_ok : OpD K (rIsA true) isnotE := by
  intro ow H x y d e z Q tr hx hy hz k
  unfold isnotE at hz
  cases ho : isD d e with
  | none =>
    rw [ho] at hz
    cases hz
  | some b =>
    rw [ho] at hz
    have ez := Option.some.inj hz
    subst ez
    have kb : Q (.bl (!b)) H := k _ H (fun _ _ h => h) (.bl _)
    rcases isD_some (H' := H) hx hy ho with ⟨h1, h2⟩ | ⟨i, j, h1, h2, h3⟩
    · exact .inl ⟨h1, by rw [← h2] at kb; exact kb⟩
    · exact .inr ⟨i, j, h1, h2, by rw [← h3] at kb; exact kb⟩
/-! ### xs[i] -/
def ixD : PyData → PyData → Option PyData
  | .list ds, .int i => atI ds i
  | .tuple ds, .int i => atI ds i
  | .str z, .int i => if z.length ≤ sizeLine then (atI z.cps.toList i).map fun c => .str ⟨#[c]⟩ else none
  | _, _ => none
theorem DqAll.at {H : Hp} {vs : List V} {ds : List PyData} {i : Int} {d : PyData} (h : DqAll K H vs ds) (e : atI ds i = some d) : ∃ v, atI vs i = some v ∧ Dq K H v d := by
  unfold atI at e ⊢
  rw [h.length]
  cases q : ixN ds.length i with
  | none =>
    rw [q] at e
    cases e
  | some j =>
    rw [q] at e
    exact h.get j e
theorem ixD_ok : OpD K (rIx K) ixD := by
  intro ow H x y d e z Q tr hx hy hz k
  unfold ixD at hz
  split at hz
  · cases hy
    cases hx with
    | lst hs ha =>
      obtain ⟨v, h1, h2⟩ := ha.at hz
      exact .inl ⟨_, _, _, v, rfl, rfl, Same.seqL frz_sub hs, h1, k v H (fun _ _ h => h) h2⟩
  · cases hy
    cases hx with
    | tup hs ha =>
      obtain ⟨v, h1, h2⟩ := ha.at hz
      exact .inr (.inl ⟨_, _, _, v, rfl, rfl, Same.seqT frz_sub hs.sq, h1, k v H (fun _ _ h => h) h2⟩)
  · cases hy
    cases hx
    rename_i z' i
    by_cases hl : z'.length ≤ sizeLine
    · rw [if_pos hl] at hz
      cases q : atI z'.cps.toList i with
      | none =>
        rw [q] at hz
        cases hz
      | some c =>
        rw [q] at hz
        have ez := Option.some.inj hz
        subst ez
        exact .inr (.inr ⟨z', i, c, rfl, rfl, hl, q, k _ H (fun _ _ h => h) (.str _)⟩)
    · rw [if_neg hl] at hz
      cases hz
  · cases hz
variable {W : XK} {f g : M PyData} {a b : Expr} {pos : Pos}
theorem de_ix (ha : PE X a (tE X.K W f)) (hb : PE X b (tE X.K W g)) (hs : PlainIx b) : PE X (.Subscript a b pos) (tE X.K W (m2 ixD f g)) := PE.imp (pe_ix ix_seq ha hb hs) fun _ _ _ h => tE_op ixD_ok h
/-- .. of a list that a slot owns -/
def ixQ (f : M (Bool × List PyData)) (g : M PyData) : M PyData := fun E => match f E with
  | some (.ok z E1) => (match g E1 with
    | some (.ok (.int i) E2) => (atI z.2 i).map fun d => .ok d E2
    | _ => none)
  | _ => none
/-! ### in -/
def inD : PyData → PyData → Option Bool
  | d, .list ds => if SeqAt.shaped d = true ∧ SeqAt.shaped (.list ds) = true then some (ds.any fun z => PyData.eqv z d) else none
  | d, .tuple ds => if SeqAt.shaped d = true ∧ SeqAt.shaped (.tuple ds) = true then some (ds.any fun z => PyData.eqv z d) else none
  | .str c, .str z => (match c.cps.toList with
    | [c] => some (decide (c ∈ z.cps.toList))
    | _ => none)
  | _, _ => none
def rInT (K : PySem.W.Frag) (neg : Bool) : R2 := fun x y H Q => ∃ d ds, Dp K H x d ∧ Dp K H y (.tuple ds) ∧ SeqAt.shaped d = true ∧ SeqAt.shaped (.tuple ds) = true ∧ Q (.bl (if neg then !(ds.any fun z => PyData.eqv z d) else ds.any fun z => PyData.eqv z d)) H
theorem op_inT (hu : X.A.units + 65 < cLine) : OpR X (compareOp .In) (rInT X.K false) := by
  rintro pins s σ H x y v u Q J rx ry ⟨d, ds, hd, he, sd, se, q⟩
  obtain ⟨as, r1⟩ := Dp.reads J d x v hd rx
  obtain ⟨bs, r2⟩ := Dp.reads J (.tuple ds) y u he ry
  exact SeqAt.in_tuple_reads r2 r1 (SeqAt.canLay_of_shaped se) (SeqAt.canLay_of_shaped sd) (room_in_shaped sd hu) ⟨.bl _, H, J, rfl, q⟩
theorem op_notInT (hu : X.A.units + 65 < cLine) : OpR X (compareOp .NotIn) (rInT X.K true) := by
  rintro pins s σ H x y v u Q J rx ry ⟨d, ds, hd, he, sd, se, q⟩
  obtain ⟨as, r1⟩ := Dp.reads J d x v hd rx
  obtain ⟨bs, r2⟩ := Dp.reads J (.tuple ds) y u he ry
  exact SeqAt.notIn_tuple_reads r2 r1 (SeqAt.canLay_of_shaped se) (SeqAt.canLay_of_shaped sd) (room_in_shaped sd hu) ⟨.bl _, H, J, rfl, q⟩
def rInA (K : PySem.W.Frag) : R2 := fun x y H Q => rInD K x y H Q ∨ rInT K false x y H Q ∨ ∃ (c : Nat) (z : Str), x = .str ⟨#[c]⟩ ∧ y = .str z ∧ Q (.bl (decide (c ∈ z.cps.toList))) H
def rNotInA (K : PySem.W.Frag) : R2 := fun x y H Q => rNotInD K x y H Q ∨ rInT K true x y H Q ∨ ∃ (c : Nat) (z : Str), x = .str ⟨#[c]⟩ ∧ y = .str z ∧ Q (.bl (!decide (c ∈ z.cps.toList))) H
theorem op_inA (hu : X.A.units + 65 < cLine) : OpR X (compareOp .In) (rInA X.K) := (op_inD hu).or ((op_inT hu).or op_in_sign)
theorem op_notInA (hu : X.A.units + 65 < cLine) : OpR X (compareOp .NotIn) (rNotInA X.K) := (op_notInD hu).or ((op_notInT hu).or op_notIn_sign)
def inE (d e : PyData) : Option PyData := (inD d e).map .bool
def notInE (d e : PyData) : Option PyData := (inD d e).map fun b => .bool (!b)
theorem inD_some {H : Hp} {x y : V} {d e : PyData} {b : Bool} (hx' : Dq K H x d) (hy' : Dq K H y e) (h : inD d e = some b) :
    (∃ ds, Dp K H x d ∧ Dp K H y (.list ds) ∧ SeqAt.shaped d = true ∧ SeqAt.shaped (.list ds) = true ∧ (ds.any fun z => PyData.eqv z d) = b) ∨
    (∃ ds, Dp K H x d ∧ Dp K H y (.tuple ds) ∧ SeqAt.shaped d = true ∧ SeqAt.shaped (.tuple ds) = true ∧ (ds.any fun z => PyData.eqv z d) = b) ∨
    ∃ (c : Nat) (z : Str), x = .str ⟨#[c]⟩ ∧ y = .str z ∧ decide (c ∈ z.cps.toList) = b := by
  unfold inD at h
  split at h
  · obtain ⟨hs, e⟩ := lim_of h
    exact .inl ⟨_, Dq.dp _ x (SeqAt.canLay_of_shaped hs.1) hx', Dq.dp _ y (SeqAt.canLay_of_shaped hs.2) hy', hs.1, hs.2, e⟩
  · obtain ⟨hs, e⟩ := lim_of h
    exact .inr (.inl ⟨_, Dq.dp _ x (SeqAt.canLay_of_shaped hs.1) hx', Dq.dp _ y (SeqAt.canLay_of_shaped hs.2) hy', hs.1, hs.2, e⟩)
  · cases hx'
    cases hy'
    split at h
    · rename_i c z _ c' hc
      have ec : c = ⟨#[c']⟩ := by
        obtain ⟨⟨l⟩⟩ := c
        simp only at hc
        rw [hc]
      subst ec
      exact .inr (.inr ⟨c', z, rfl, rfl, Option.some.inj h⟩)
    · cases h
  · cases h
theorem inE_s : OpS K (rInA K) inE := by
  intro H x y d e z Q hx hy hz k
  unfold inE at hz
  cases ho : inD d e with
  | none =>
    rw [ho] at hz
    cases hz
  | some b =>
    rw [ho] at hz
    have ez := Option.some.inj hz
    subst ez
    have kb : Q (.bl b) H := k b rfl
    rcases inD_some hx hy ho with ⟨ds, h1, h2, h3, h4, h5⟩ | ⟨ds, h1, h2, h3, h4, h5⟩ | ⟨c, z, h1, h2, h3⟩
    · exact .inl ⟨d, ds, h1, h2, h3, h4, by rw [h5]; exact kb⟩
    · exact .inr (.inl ⟨d, ds, h1, h2, h3, h4, by rw [← h5] at kb; exact kb⟩)
    · exact .inr (.inr ⟨c, z, h1, h2, by rw [h3]; exact kb⟩)
theorem inE_ok : OpD K (rInA K) inE := inE_s.d
theorem notInE_s : OpS K (rNotInA K) notInE := by
  intro H x y d e z Q hx hy hz k
  unfold notInE at hz
  cases ho : inD d e with
  | none =>
    rw [ho] at hz
    cases hz
  | some b =>
    rw [ho] at hz
    have ez := Option.some.inj hz
    subst ez
    have kb : Q (.bl (!b)) H := k _ rfl
    rcases inD_some hx hy ho with ⟨ds, h1, h2, h3, h4, h5⟩ | ⟨ds, h1, h2, h3, h4, h5⟩ | ⟨c, z, h1, h2, h3⟩
    · exact .inl ⟨d, ds, h1, h2, h3, h4, by rw [h5]; exact kb⟩
    · exact .inr (.inl ⟨d, ds, h1, h2, h3, h4, by rw [← h5] at kb; exact kb⟩)
    · exact .inr (.inr ⟨c, z, h1, h2, by rw [h3]; exact kb⟩)
theorem notInE_ok : OpD K (rNotInA K) notInE := notInE_s.d
end
end Sa

set_option maxHeartbeats 4000000
/-! The data layer: calls of built-in functions, slices, methods. -/
namespace Sa
open PySem PySem.Spec PyProof.Rows L2 He NdefX
theorem Same.id (H : Hp) : Same H H := fun _ _ h => h
section
variable {X : Cx} {K : PySem.W.Frag} {W : XK} {σ : L2.St} {H : Hp} {f g : M PyData} {a b e : Expr} {es : List Expr} {fa : M (List PyData)} {p pos : Pos} {Q : VK}
/-- a call's rule by values says at least what the function on data says -/
def CalD (K : PySem.W.Frag) (r : List V → Hp → VK → Prop) (op : List PyData → Option PyData) : Prop := ∀ (ow : Ow) (H : Hp) (xs : List V) (ds : List PyData) (z : PyData) (Q : VK), (∀ b, ow b ≠ none → H b ≠ none) → DqAll K (frz ow H) xs ds → op ds = some z →
  (∀ v H', Same H H' → Dq K (frz ow H') v z → Q v H') → r xs H Q
def calE (op : List PyData → Option PyData) (f : M (List PyData)) : M PyData := bnd f fun ds => ofO (op ds)
theorem tE_cal {r : List V → Hp → VK → Prop} {op : List PyData → Option PyData} (hd : CalD K r op) (h : tE K W (calE op fa) σ H Q) : tCB r (tA K W fa) σ H Q := by
  obtain ⟨ow, E, rr, z, hz, k⟩ := h
  refine tA_bnd rr hz (fun c fs E1 e => by subst e; exact k) fun ds E1 h1 ow1 H1 vs R1 S1 q1 => ?_
  obtain ⟨w, hw, rfl⟩ := ofO_some h1
  exact hd ow1 H1 vs ds w Q R1.tr q1 hw fun v' H' s q => k ow1 H' v' (R1.grow s) (S1.trans (Stp.grow s)) q
/-- f(e, ..), f a built-in function -/
theorem de_calB {id : String} {x : Str} {r : List V → Hp → VK → Prop} {op : List PyData → Option PyData} (hc : CallR X (.builtin id) r) (hd : CalD X.K r op) (ha : PA X (e :: es) (tA X.K W fa)) (hm : X.mg x = none) (hv : bootBuiltins x = some (.builtin id) := by decide +kernel) (hg : Gl X x := by rfl) (hn : x ≠ "__name__" := by decide) (hdb : (x == ("__debug__" : Str)) = false := by decide)
    (he : starEach (e :: es) X.env = (false, eval e X.env) :: starEach es X.env := by rfl) (hpl : (backTo pos (starEach es X.env)).any (·.1) = false := by rfl) : PE X (.Call (.Name x p) (e :: es) [] pos) (tE X.K W (calE op fa)) :=
  PE.imp (pe_callB hc hg hm hv ha hn hdb he hpl) fun _ _ _ h => tE_cal hd h
/-- .. a built-in class -/
theorem de_calT {T : String} {x : Str} {r : List V → Hp → VK → Prop} {op : List PyData → Option PyData} (hc : CallR X (.type T) r) (hd : CalD X.K r op) (ha : PA X (e :: es) (tA X.K W fa)) (hm : X.mg x = none) (hv : bootBuiltins x = some (.type T) := by decide +kernel) (hg : Gl X x := by rfl) (hn : x ≠ "__name__" := by decide) (hdb : (x == ("__debug__" : Str)) = false := by decide)
    (he : starEach (e :: es) X.env = (false, eval e X.env) :: starEach es X.env := by rfl) (hpl : (backTo pos (starEach es X.env)).any (·.1) = false := by rfl) : PE X (.Call (.Name x p) (e :: es) [] pos) (tE X.K W (calE op fa)) :=
  PE.imp (pe_callTy hc hg hm hv ha hn hdb he hpl) fun _ _ _ h => tE_cal hd h
def c1 (op : PyData → Option PyData) : List PyData → Option PyData
  | [d] => op d
  | _ => none
theorem c1_ok {r : List V → Hp → VK → Prop} {op : PyData → Option PyData} (h : ∀ (ow : Ow) (H : Hp) (x : V) (d z : PyData) (Q : VK), (∀ b, ow b ≠ none → H b ≠ none) → Dq K (frz ow H) x d → op d = some z → (∀ v H', Same H H' → Dq K (frz ow H') v z → Q v H') → r [x] H Q) : CalD K r (c1 op) := by
  intro ow H xs ds z Q tr hx hz k
  unfold c1 at hz
  split at hz
  · cases hx with
    | cons h1 h2 =>
      cases h2
      exact h ow H _ _ z Q tr h1 hz k
  · cases hz
def lenD : PyData → Option PyData
  | .str z => if z.length ≤ sizeLine then some (.int z.length) else none
  | .list ds => some (.int ds.length)
  | .tuple ds => some (.int ds.length)
  | _ => none
theorem lenD_ok : CalD K (fun xs H Q => ∃ x n, xs = [x] ∧ LenV K x H n ∧ Q (.int n) H) (c1 lenD) := c1_ok fun ow H x d z Q tr hx hz k => by
  unfold lenD at hz
  split at hz
  · cases hx
    obtain ⟨hl, ez⟩ := lim_of hz
    subst ez
    exact ⟨_, _, rfl, ⟨hl, rfl⟩, k _ H (Same.id H) (.int _)⟩
  · have ez := Option.some.inj hz
    subst ez
    cases hx with
    | lst hs ha => exact ⟨_, _, rfl, .inl ⟨_, Same.seqL frz_sub hs, ha.length.symm⟩, k _ H (Same.id H) (.int _)⟩
  · have ez := Option.some.inj hz
    subst ez
    cases hx with
    | tup hs ha => exact ⟨_, _, rfl, .inr ⟨_, Same.seqT frz_sub hs.sq, ha.length.symm⟩, k _ H (Same.id H) (.int _)⟩
  · cases hz
def absD : PyData → Option PyData
  | .int i => some (.int (if i < 0 then -i else i))
  | _ => none
theorem absD_ok : CalD K (fun xs H Q => ∃ i, xs = [.int i] ∧ Q (.int (if i < 0 then -i else i)) H) (c1 absD) := c1_ok fun ow H x d z Q tr hx hz k => by
  unfold absD at hz
  split at hz
  · cases hx
    have ez := Option.some.inj hz
    subst ez
    exact ⟨_, rfl, k _ H (Same.id H) (.int _)⟩
  · cases hz
def intD : PyData → Option PyData
  | .int i => some (.int i)
  | .bool k => some (.int (if k then 1 else 0))
  | _ => none
theorem intD_ok : CalD K (fun xs H Q => (∃ i, xs = [.int i] ∧ Q (.int i) H) ∨ ∃ k, xs = [.bl k] ∧ Q (.int (if k then 1 else 0)) H) (c1 intD) := c1_ok fun ow H x d z Q tr hx hz k => by
  unfold intD at hz
  split at hz
  · cases hx
    have ez := Option.some.inj hz
    subst ez
    exact .inl ⟨_, rfl, k _ H (Same.id H) (.int _)⟩
  · cases hx
    have ez := Option.some.inj hz
    subst ez
    exact .inr ⟨_, rfl, k _ H (Same.id H) (.int _)⟩
  · cases hz
def strD : PyData → Option PyData
  | .int i => if i.natAbs.log2 < 1920 then some (.str (toString i)) else none
  | _ => none
theorem strD_ok : CalD K (fun xs H Q => ∃ i, xs = [.int i] ∧ i.natAbs.log2 < 1920 ∧ Q (.str (toString i)) H) (c1 strD) := c1_ok fun ow H x d z Q tr hx hz k => by
  unfold strD at hz
  split at hz
  · cases hx
    obtain ⟨hl, ez⟩ := lim_of hz
    subst ez
    exact ⟨_, rfl, hl, k _ H (Same.id H) (.str _)⟩
  · cases hz
def ii2 (g : Int → Int → Int) : List PyData → Option PyData
  | [.int i, .int j] => some (.int (g i j))
  | _ => none
theorem ii2_ok {g : Int → Int → Int} : CalD K (fun xs H Q => ∃ i j, xs = [.int i, .int j] ∧ Q (.int (g i j)) H) (ii2 g) := by
  intro ow H xs ds z Q tr hx hz k
  unfold ii2 at hz
  split at hz
  · cases hx with
    | cons h1 h2 =>
      cases h2 with
      | cons h3 h4 =>
        cases h4
        cases h1
        cases h3
        have ez := Option.some.inj hz
        subst ez
        exact ⟨_, _, rfl, k _ H (Same.id H) (.int _)⟩
  · cases hz
/-! ### isinstance -/
def tyn : PyData → String
  | .none => "NoneType"
  | .bool _ => "bool"
  | .int _ => "int"
  | .str _ => "str"
  | .list _ => "list"
  | .tuple _ => "tuple"
  | .dict _ => "dict"
theorem Dq.ty {v : V} {d : PyData} (h : Dq K H v d) : TyX K H v (.type (tyn d)) := by
  cases h with
  | non => exact .base .non
  | bl b => exact .base (.bl b)
  | int i => exact .base (.int i)
  | str x => exact .base (.str x)
  | lst hs ha =>
    rcases hs with (hs | ⟨o, hs⟩) | ⟨o, its, n, h1, h2, _⟩
    · exact .base (.lst hs)
    · exact .base (.frz hs)
    · exact .kList h1 h2
  | tup hs ha =>
    rcases hs with ⟨o, hs, _⟩ | ⟨o, its, n, h1, h2, _⟩
    · exact .fTuple hs
    · exact .kTuple h1 h2
  | dct hs hk =>
    rcases hs with hs | ⟨o, hs⟩
    · exact .base (.dK hs)
    · exact .fDict hs
def isiB (T : String) (d : PyData) : Bool := (kitB (tyn d) T).getD false
def isiE (T : String) (f : M PyData) : M PyData := bnd f fun d => ret (.bool (isiB T d))
def kitAll (T : String) : Bool := ["NoneType", "bool", "int", "str", "list", "tuple", "dict"].all fun t => (kitB t T).isSome
theorem kit_get {T : String} (h : kitAll T = true) (d : PyData) : kitB (tyn d) T = some (isiB T d) := by
  have m : tyn d ∈ ["NoneType", "bool", "int", "str", "list", "tuple", "dict"] := by cases d <;> simp [tyn]
  have q := List.all_eq_true.mp h _ m
  unfold isiB
  cases z : kitB (tyn d) T with
  | none =>
    rw [z] at q
    cases q
  | some b => rfl
theorem de_isi {x T : Str} {tn : String} {pT : Pos} (ha : PE X a (tE X.K W f)) (hm : X.mg "isinstance" = none) (hT : X.mg T = none) (hv : bootBuiltins T = some (.type tn) := by decide +kernel) (hk : kitAll tn = true := by decide +kernel) (ex : x = "isinstance" := by rfl) (hg : Gl X x := by rfl) (hgT : Gl X T := by rfl) (hnT : T ≠ "__name__" := by decide) (hdT : (T == ("__debug__" : Str)) = false := by decide)
    (he : starEach [a, .Name T pT] X.env = (false, eval a X.env) :: starEach [.Name T pT] X.env := by rfl) (he2 : starEach [.Name T pT] X.env = (false, eval (.Name T pT) X.env) :: starEach [] X.env := by rfl) (hpl : (backTo pos (starEach [.Name T pT] X.env)).any (·.1) = false := by rfl) :
    PE X (.Call (.Name x p) [a, .Name T pT] [] pos) (tE X.K W (isiE tn f)) := by
  subst ex
  refine PE.imp (pe_callB call_isi hg hm (by decide +kernel) (pa_cons ha (pa_cons (pe_bltn (v := .ty tn) hgT hT hv rfl hnT hdT) pa_nil he2) he) (by decide) (by decide) he hpl) fun σ H Q h => ?_
  obtain ⟨ow, E, rr, z, hz, k⟩ := h
  refine tE_bnd rr hz (fun c fs E1 e => by subst e; exact k) fun d E1 h1 ow1 H1 v R1 S1 q1 => ?_
  have e := Option.some.inj h1
  subst e
  exact ⟨v, .ty tn, .type (tyn d), .type tn, isiB tn d, rfl, .ty tn, (Dq.same frz_sub d v q1).ty, kit_ty (kit_get hk d), k ow1 H1 _ R1 S1 (.bl _)⟩
/-! ### calls with a sequence -/
def CalQ (K : PySem.W.Frag) (r : List V → Hp → VK → Prop) (op : Bool × List PyData → Option PyData) : Prop := ∀ (ow : Ow) (H : Hp) (a : Addr) (t : Bool) (vs : List V) (ds : List PyData) (z : PyData) (Q : VK), (∀ b, ow b ≠ none → H b ≠ none) → SqAt K ow H a t vs → DqAll K (frz ow H) vs ds → op (t, ds) = some z →
  (∀ v H', Same H H' → Dq K (frz ow H') v z → Q v H') → r [.ref a] H Q
def calQ (op : Bool × List PyData → Option PyData) (f : M (Bool × List PyData)) : M PyData := bnd f fun d => ofO (op d)
variable {fq : M (Bool × List PyData)}
theorem tE_calQ {r : List V → Hp → VK → Prop} {op : Bool × List PyData → Option PyData} (hd : CalQ K r op) (h : tE K W (calQ op fq) σ H Q) : tCB r (tCons (tQ K W fq) tNil) σ H Q := by
  obtain ⟨ow, E, rr, z, hz, k⟩ := h
  show tQ K W fq σ H fun x H1 => r [x] H1 Q
  refine tQ_bnd rr hz (fun c fs E1 e => by subst e; exact k) fun d E1 h1 ow1 H1 a vs R1 S1 sq q1 => ?_
  obtain ⟨w, hw, rfl⟩ := ofO_some h1
  exact hd ow1 H1 a d.1 vs d.2 w Q R1.tr sq q1 hw fun v' H' s q => k ow1 H' v' (R1.grow s) (S1.trans (Stp.grow s)) q
theorem de_qB {id : String} {x : Str} {r : List V → Hp → VK → Prop} {op : Bool × List PyData → Option PyData} (hc : CallR X (.builtin id) r) (hd : CalQ X.K r op) (ha : PE X e (tQ X.K W fq)) (hm : X.mg x = none) (hv : bootBuiltins x = some (.builtin id) := by decide +kernel) (hg : Gl X x := by rfl) (hn : x ≠ "__name__" := by decide) (hdb : (x == ("__debug__" : Str)) = false := by decide)
    (he : starEach [e] X.env = (false, eval e X.env) :: starEach [] X.env := by rfl) (hpl : (backTo pos (starEach [] X.env)).any (·.1) = false := by rfl) : PE X (.Call (.Name x p) [e] [] pos) (tE X.K W (calQ op fq)) :=
  PE.imp (pe_callB hc hg hm hv (pa_cons ha pa_nil he) hn hdb he hpl) fun _ _ _ h => tE_calQ hd h
theorem de_qT {T : String} {x : Str} {r : List V → Hp → VK → Prop} {op : Bool × List PyData → Option PyData} (hc : CallR X (.type T) r) (hd : CalQ X.K r op) (ha : PE X e (tQ X.K W fq)) (hm : X.mg x = none) (hv : bootBuiltins x = some (.type T) := by decide +kernel) (hg : Gl X x := by rfl) (hn : x ≠ "__name__" := by decide) (hdb : (x == ("__debug__" : Str)) = false := by decide)
    (he : starEach [e] X.env = (false, eval e X.env) :: starEach [] X.env := by rfl) (hpl : (backTo pos (starEach [] X.env)).any (·.1) = false := by rfl) : PE X (.Call (.Name x p) [e] [] pos) (tE X.K W (calQ op fq)) :=
  PE.imp (pe_callTy hc hg hm hv (pa_cons ha pa_nil he) hn hdb he hpl) fun _ _ _ h => tE_calQ hd h
def lenQ (z : Bool × List PyData) : Option PyData := some (.int z.2.length)
theorem lenQ_ok : CalQ K (fun xs H Q => ∃ p ys, xs = [.ref p] ∧ (SqL K H p ys ∨ SqT K H p ys) ∧ Q (.int ys.length) H) lenQ := fun ow H a t vs ds z Q tr sq q hz k => by
  have ez := Option.some.inj hz
  subst ez
  exact ⟨a, vs, rfl, sq.or, by rw [q.length]; exact k _ H (Same.id H) (.int _)⟩
def tupQ (z : Bool × List PyData) : Option PyData := some (.tuple z.2)
theorem tupQ_ok : CalQ K (fun xs H Q => ∃ p ys, xs = [.ref p] ∧ ((SqL K H p ys ∧ TupNew ys H Q) ∨ (SqT K H p ys ∧ Q (.ref p) H))) tupQ := fun ow H a t vs ds z Q tr sq q hz k => by
  have ez := Option.some.inj hz
  subst ez
  cases t with
  | false => exact ⟨a, vs, rfl, .inl ⟨sq.l rfl, TupNew.of tr q k⟩⟩
  | true => exact ⟨a, vs, rfl, .inr ⟨Same.seqT frz_sub (sq.t rfl).sq, k _ H (Same.id H) (.tup (sq.t rfl) q)⟩⟩
def boolsO : List PyData → Option (List Bool)
  | [] => some []
  | .bool b :: ds => (boolsO ds).map (b :: ·)
  | _ :: _ => none
theorem bools_of {F : Hp} : ∀ {vs : List V} {ds : List PyData} {bs : List Bool}, DqAll K F vs ds → boolsO ds = some bs → vs = bs.map V.bl
  | _, _, _, .nil, h => by
    have e := Option.some.inj h
    subst e
    rfl
  | _, _, bs, .cons (d := d) h1 h2, h => by
    cases h1 with
    | bl b =>
      unfold boolsO at h
      rename_i ds
      cases q : boolsO ds with
      | none =>
        rw [q] at h
        cases h
      | some cs =>
        rw [q] at h
        have e := Option.some.inj h
        subst e
        rw [bools_of h2 q]
        rfl
    | _ => cases h
def allQ (z : Bool × List PyData) : Option PyData := if z.1 then none else (boolsO z.2).map fun bs => .bool (bs.all id)
def anyQ (z : Bool × List PyData) : Option PyData := if z.1 then none else (boolsO z.2).map fun bs => .bool (bs.any id)
theorem allQ_ok : CalQ K (rAll K) allQ := fun ow H a t vs ds z Q tr sq q hz k => by
  cases t with
  | true => cases hz
  | false =>
    cases hb : boolsO ds with
    | none =>
      unfold allQ at hz
      simp only [hb] at hz
      cases hz
    | some bs =>
      unfold allQ at hz
      simp only [hb] at hz
      have ez := Option.some.inj hz
      subst ez
      have ev := bools_of q hb
      subst ev
      exact ⟨a, bs, rfl, sq.l rfl, k _ H (Same.id H) (.bl _)⟩
theorem anyQ_ok : CalQ K (rAny K) anyQ := fun ow H a t vs ds z Q tr sq q hz k => by
  cases t with
  | true => cases hz
  | false =>
    cases hb : boolsO ds with
    | none =>
      unfold anyQ at hz
      simp only [hb] at hz
      cases hz
    | some bs =>
      unfold anyQ at hz
      simp only [hb] at hz
      have ez := Option.some.inj hz
      subst ez
      have ev := bools_of q hb
      subst ev
      exact ⟨a, bs, rfl, sq.l rfl, k _ H (Same.id H) (.bl _)⟩
/-- list(xs) -/
def rLO (K : PySem.W.Frag) : List V → Hp → VK → Prop := fun xs H Q => ∃ p ys, xs = [.ref p] ∧ (SqL K H p ys ∨ SqT K H p ys) ∧ ∀ l, H l = none → Q (.ref l) (upd H l (.lst ys))
def listQ (f : M (Bool × List PyData)) : M (List PyData) := bnd f fun z => ret z.2
theorem df_list (ha : PE X e (tQ X.K W fq)) (hm : X.mg "list" = none) {x : Str} (ex : x = "list" := by rfl) (hg : Gl X x := by rfl) 
    (he : starEach [e] X.env = (false, eval e X.env) :: starEach [] X.env := by rfl) (hpl : (backTo pos (starEach [] X.env)).any (·.1) = false := by rfl) : PE X (.Call (.Name x p) [e] [] pos) (tF X.K W (listQ fq)) := by
  subst ex
  refine PE.imp (pe_callTy (r := rLO X.K) call_list_of hg hm (by decide +kernel) (pa_cons ha pa_nil he) (by decide) (by decide) he hpl) fun σ H Q h => ?_
  obtain ⟨ow, E, rr, z, hz, k⟩ := h
  show tQ X.K W fq σ H fun x H1 => rLO X.K [x] H1 Q
  refine tQ_bnd rr hz (fun c fs E1 e => by subst e; exact k) fun d E1 h1 ow1 H1 a vs R1 S1 sq q1 => ?_
  have e := Option.some.inj h1
  subst e
  exact ⟨a, vs, rfl, sq.or, fun l hl => k ow1 H1 l vs hl R1 S1 q1⟩
/-! ### slices -/
def noneO : M (Option Int) := ret none
def someO (f : M PyData) : M (Option Int) := bnd f fun d => match d with
  | .int i => ret (some i)
  | _ => die
def tO (K : PySem.W.Frag) (W : XK) (f : M (Option Int)) : TO := fun σ H Q => ∃ ow E, R K ow E σ H ∧ ∃ r, f E = some r ∧
  match r with
  | .ok o E' => ∀ ow' H', R K ow' E' σ H' → Stp ow ow' H H' → Q o H'
  | .ex c fs _ => ∀ ow' H' cls dv, Stp ow ow' H H' → XcAt K (frz ow' H') cls dv c fs → W cls dv H'
theorem tO_bnd {β : Type} {f : M (Option Int)} {k : Option Int → M β} {r : Rz β} {ow : Ow} {E : En} (rr : R K ow E σ H) (h : bnd f k E = some r) {Q : Option Int → Hp → Prop}
    (hx : ∀ c fs E1, r = .ex c fs E1 → ∀ ow' H' cls dv, Stp ow ow' H H' → XcAt K (frz ow' H') cls dv c fs → W cls dv H')
    (ho : ∀ d E1, k d E1 = some r → ∀ ow' H', R K ow' E1 σ H' → Stp ow ow' H H' → Q d H') : tO K W f σ H Q := by
  rcases bnd_some h with ⟨d, E1, h1, h2⟩ | ⟨c, fs, E1, h1, h2⟩
  · exact ⟨ow, E, rr, _, h1, fun ow' H' r' s' => ho d E1 h2 ow' H' r' s'⟩
  · exact ⟨ow, E, rr, _, h1, fun ow' H' cls dv s' z => hx c fs E1 h2 ow' H' cls dv s' z⟩
theorem PO.imp {e : Option Expr} {t u : TO} (h : PO X e t) (k : ∀ σ H Q, u σ H Q → t σ H Q) : PO X e u := ⟨fun pins s σ H Q I hw => h.run pins s σ H Q I (k _ _ _ hw)⟩
theorem dp_none : PO X none (tO X.K W noneO) := by
  refine PO.imp po_none fun σ H Q h => ?_
  obtain ⟨ow, E, rr, z, hz, k⟩ := h
  have e := Option.some.inj hz
  subst e
  exact k ow H rr (Stp.refl _ _)
theorem dp_some (ha : PE X e (tE X.K W f)) : PO X (some e) (tO X.K W (someO f)) := by
  refine PO.imp (po_some ha) fun σ H Q h => ?_
  obtain ⟨ow, E, rr, z, hz, k⟩ := h
  refine tE_bnd rr hz (fun c fs E1 e => by subst e; exact k) fun d E1 h1 ow1 H1 v R1 S1 q1 => ?_
  cases d with
  | int i =>
    cases q1
    have e := Option.some.inj h1
    subst e
    exact ⟨i, rfl, k ow1 H1 R1 S1⟩
  | _ => cases h1
def cutL (ds : List PyData) (lo hi : Option Int) : List PyData := (ds.drop (HT.sIx ds.length 0 lo)).take (HT.sIx ds.length ds.length hi - HT.sIx ds.length 0 lo)
theorem DqAll.cut {F : Hp} {vs : List V} {ds : List PyData} (h : DqAll K F vs ds) (lo hi : Option Int) : DqAll K F (cutV vs lo hi) (cutL ds lo hi) := by
  unfold cutV cutL
  rw [h.length]
  exact (h.drop _).take _
def slD : PyData → Option Int → Option Int → Option PyData
  | .list ds, lo, hi => some (.list (cutL ds lo hi))
  | .tuple ds, lo, hi => some (.tuple (cutL ds lo hi))
  | .str z, lo, hi => if z.length ≤ sizeLine then some (.str (cutS z lo hi)) else none
  | _, _, _ => none
def slE (f : M PyData) (l h : M (Option Int)) : M PyData := bnd f fun d => bnd l fun lo => bnd h fun hi => ofO (slD d lo hi)
def rSlAll (K : PySem.W.Frag) : V → Option Int → Option Int → Hp → VK → Prop := fun x lo hi H Q => rSlL K x lo hi H Q ∨ rSlF K x lo hi H Q ∨ rSlS x lo hi H Q
theorem sl_all : SlR X (rSlAll X.K) := sl_list.or (sl_tupF.or sl_str)
theorem cutV_len {F : Hp} {vs : List V} {ds : List PyData} (h : DqAll K F vs ds) {lo hi : Option Int} (e : cutV vs lo hi = vs) : cutL ds lo hi = ds := by
  have h1 := (h.cut lo hi).length
  rw [e, h.length] at h1
  unfold cutL at h1 ⊢
  rw [List.length_take, List.length_drop] at h1
  have h0 : HT.sIx ds.length 0 lo ≤ ds.length := HT.sIx_le _ _ (Nat.zero_le _) _
  by_cases hz : HT.sIx ds.length 0 lo = 0
  · rw [hz, List.drop_zero] at *
    exact List.take_of_length_le (by omega)
  · have : ds.length = 0 := by omega
    have : ds = [] := List.length_eq_zero_iff.mp this
    subst this
    simp
theorem de_sl {lo hi : Option Expr} {p2 : Pos} {l h : M (Option Int)} (ha : PE X e (tE X.K W f)) (hl : PO X lo (tO X.K W l)) (hh : PO X hi (tO X.K W h)) : PE X (.Subscript e (.Slice lo hi none p2) pos) (tE X.K W (slE f l h)) := by
  refine PE.imp (pe_slice sl_all ha hl hh) fun σ H Q h => ?_
  obtain ⟨ow, E, rr, z, hz, k⟩ := h
  refine tE_bnd rr hz (fun c fs E1 e => by subst e; exact k) fun d E1 h1 ow1 H1 v R1 S1 q1 => ?_
  refine tO_bnd R1 h1 (fun c fs E1 e ow' H' cls dv s x => by subst e; exact k ow' H' cls dv (S1.trans s) x) fun lo E2 h2 ow2 H2 R2 S2 => ?_
  refine tO_bnd R2 h2 (fun c fs E1 e ow' H' cls dv s x => by subst e; exact k ow' H' cls dv ((S1.trans S2).trans s) x) fun hi E3 h3 ow3 H3 R3 S3 => ?_
  obtain ⟨w, hw, rfl⟩ := ofO_some h3
  have q3 := S3.dq (S2.dq q1)
  have S := (S1.trans S2).trans S3
  have fin : ∀ v H', Same H3 H' → Dq X.K (frz ow3 H') v w → Q v H' := fun v H' s q => k ow3 H' v (R3.grow s) (S.trans (Stp.grow s)) q
  unfold slD at hw
  split at hw
  · have ez := Option.some.inj hw
    subst ez
    cases q3 with
    | lst hs ha => exact .inl ⟨_, _, rfl, Same.seqL frz_sub hs, lst_new R3.tr (ha.cut _ _) fin⟩
  · have ez := Option.some.inj hw
    subst ez
    cases q3 with
    | tup hs ha =>
      refine .inr (.inl ⟨_, _, rfl, Same.seqT frz_sub hs.sq, fun e => ?_, TupNew.of R3.tr (ha.cut _ _) fin⟩)
      rw [cutV_len ha e] at fin
      exact fin _ H3 (Same.id H3) (.tup hs ha)
  · cases q3
    obtain ⟨hl, ez⟩ := lim_of hw
    subst ez
    exact .inr (.inr ⟨_, rfl, hl, fin _ H3 (Same.id H3) (.str _)⟩)
  · cases hw
end
end Sa

set_option maxHeartbeats 4000000
/-! The data layer: lists that a slot owns; methods. -/
namespace Sa
open PySem PySem.Spec PyProof.Rows L2 He NdefX
theorem frz_upd {ow : Ow} {H : Hp} {a : Addr} {o : HO} (h : ow a ≠ none) : frz ow (upd H a o) = frz ow H := by
  funext b
  by_cases e : b = a
  · subst e
    rw [frz_no h, frz_no h]
  · by_cases q : ow b = none
    · rw [frz_at q, frz_at q, upd_ne e]
    · rw [frz_no q, frz_no q]
section
variable {X : Cx} {K : PySem.W.Frag} {W : XK} {σ : L2.St} {H : Hp} {ow : Ow} {E : En} {f g : M PyData} {a b e o : Expr} {es : List Expr} {fa : M (List PyData)} {p pos : Pos} {Q : VK} {i : Nat}
theorem R.own (r : R K ow E σ H) {ds : List PyData} (h : E[i]? = some (.own ds)) : ∃ a vs, σ[i]? = some (some (.ref a)) ∧ ow a = some (i + 1) ∧ H a = some (.lst vs) ∧ DqAll K (frz ow H) vs ds := by
  obtain ⟨hl, _⟩ := List.getElem?_eq_some_iff.mp h
  have hl2 : i < σ.length := by rw [← r.ln]; exact hl
  have ho : σ[i]? = some σ[i] := List.getElem?_eq_getElem hl2
  obtain ⟨a, vs, e1, e2, e3, z⟩ := r.sl i _ _ h ho
  exact ⟨a, vs, by rw [ho, e1], e2, e3, z⟩
theorem R.dat (r : R K ow E σ H) {d : PyData} (h : E[i]? = some (.dat d)) : ∃ v, σ[i]? = some (some v) ∧ Dq K (frz ow H) v d := by
  obtain ⟨hl, _⟩ := List.getElem?_eq_some_iff.mp h
  have hl2 : i < σ.length := by rw [← r.ln]; exact hl
  have ho : σ[i]? = some σ[i] := List.getElem?_eq_getElem hl2
  obtain ⟨v, e1, z⟩ := r.sl i _ _ h ho
  exact ⟨v, by rw [ho, e1], z⟩
/-- what the slot owns is changed -/
theorem R.put (r : R K ow E σ H) {ds' : List PyData} {vs' : List V} {a : Addr} (hs : σ[i]? = some (some (.ref a))) (ha : ow a = some (i + 1)) (hd : DqAll K (frz ow H) vs' ds') : R K ow (E.set i (.own ds')) σ (upd H a (.lst vs')) := by
  have hf : frz ow (upd H a (.lst vs')) = frz ow H := frz_upd (by rw [ha]; simp)
  refine ⟨fun b e => ?_, by simp [r.ln], fun j s o h1 h2 => ?_⟩
  · by_cases q : b = a
    · subst q
      rw [upd_same]
      simp
    · rw [upd_ne q]
      exact r.tr b e
  · by_cases q : i = j
    · subst q
      by_cases hl : i < E.length
      · rw [List.getElem?_set_self hl] at h1
        cases h1
        rw [hs] at h2
        cases h2
        exact ⟨a, vs', rfl, ha, upd_same, by rw [hf]; exact hd⟩
      · rw [List.getElem?_eq_none (by simpa using Nat.le_of_not_lt hl)] at h1
        cases h1
    · rw [List.getElem?_set_ne q] at h1
      have z := r.sl j s o h1 h2
      have ne : ∀ {c : Addr}, ow c = some (j + 1) → c ≠ a := fun {c} hc e => by
        rw [e, ha] at hc
        have := Option.some.inj hc
        omega
      cases s with
      | un => trivial
      | dat d =>
        obtain ⟨v, e1, z⟩ := z
        exact ⟨v, e1, by rw [hf]; exact z⟩
      | own ds =>
        obtain ⟨c, vs, e1, e2, e3, z⟩ := z
        exact ⟨c, vs, e1, e2, by rw [upd_ne (ne e2)]; exact e3, by rw [hf]; exact z⟩
      | drw p st =>
        obtain ⟨e1, ⟨e2, e3, e4⟩, z0, z1, z2, z3⟩ := z
        exact ⟨e1, ⟨e2, e3, e4⟩, z0, by rw [upd_ne (ne e2)]; exact z1, by rw [upd_ne (ne e3)]; exact z2, by rw [upd_ne (ne e4)]; exact z3⟩
      | tab p q =>
        obtain ⟨e1, ps, e2, z⟩ := z
        exact ⟨e1, ps, by rw [upd_ne (ne e1)]; exact e2, by rw [hf]; exact z⟩
theorem Stp.put {a : Addr} {o : HO} (ha : ow a = some (i + 1)) : Stp ow ow H (upd H a o) :=
  ⟨fun b u h e => ⟨by rw [upd_ne (fun z => by rw [z, ha] at e; cases e)]; exact h, e⟩, fun b u h e => ⟨by rw [upd_ne (fun z => by rw [z, ha] at e; cases e)]; exact h, e⟩, fun _ e => e⟩
/-! ### x[e], x a name -/
def slotD : Option Sk → Option PyData
  | some (.dat d) => some d
  | some (.own ds) => some (.list ds)
  | _ => none
theorem R.slot (r : R K ow E σ H) {d : PyData} (h : slotD E[i]? = some d) : ∃ v, σ[i]? = some (some v) ∧ Dq K H v d ∧ ∀ ds, (d = .list ds ∨ d = .tuple ds) → ∃ a vs t, v = .ref a ∧ (if t = true then SqT K H a vs else SqL K H a vs) ∧ (t = true ↔ d = .tuple ds) ∧ DqAll K (frz ow H) vs ds := by
  cases q : E[i]? with
  | none =>
    rw [q] at h
    cases h
  | some s =>
    rw [q] at h
    cases s with
    | un => cases h
    | drw p st => cases h
    | tab p q => cases h
    | dat d' =>
      have e := Option.some.inj h
      subst e
      obtain ⟨v, h1, h2⟩ := r.dat q
      refine ⟨v, h1, Dq.same frz_sub _ _ h2, fun ds hd => ?_⟩
      rcases hd with hd | hd
      · subst hd
        cases h2 with
        | lst hs ha => exact ⟨_, _, false, rfl, Same.seqL frz_sub hs, by simp, ha⟩
      · subst hd
        cases h2 with
        | tup hs ha => exact ⟨_, _, true, rfl, Same.seqT frz_sub hs.sq, by simp, ha⟩
    | own ds =>
      have e := Option.some.inj h
      subst e
      obtain ⟨a, vs, h1, h2, h3, h4⟩ := r.own q
      have hl : SqL K H a vs := .inl (.inl h3)
      refine ⟨.ref a, h1, .lst hl (DqAll.same' h4), fun es hd => ?_⟩
      rcases hd with hd | hd
      · cases hd
        exact ⟨a, vs, false, rfl, hl, by simp, h4⟩
      · cases hd
where
  DqAll.same' {vs : List V} {ds : List PyData} (h : DqAll K (frz ow H) vs ds) : DqAll K H vs ds := Dq.sameAll frz_sub ds vs h
def ixV (i : Nat) (g : M PyData) : M PyData := fun E => if (slotD E[i]?).isSome = true then bnd g (fun k E1 => match slotD E1[i]? with
  | some d => ofO (ixD d k) E1
  | none => none) E else none
theorem de_ixV {x : Str} {px : Pos} (hv : PE X (.Name x px) (tVar i)) (hb : PE X b (tE X.K W g)) (hs : PlainIx b) : PE X (.Subscript (.Name x px) b pos) (tE X.K W (ixV i g)) := by
  refine PE.imp (pe_ix ix_seq hv hb hs) fun σ H Q h => ?_
  obtain ⟨ow, E, rr, z, hz, k⟩ := h
  unfold ixV at hz
  by_cases hi : (slotD E[i]?).isSome = true
  · rw [if_pos hi] at hz
    obtain ⟨d0, hd0⟩ := Option.isSome_iff_exists.mp hi
    obtain ⟨v, hv0, _⟩ := rr.slot hd0
    refine ⟨v, hv0, ?_⟩
    refine tE_bnd rr hz (fun c fs E1 e => by subst e; exact k) fun e E1 h1 ow1 H1 u R1 S1 q1 => ?_
    cases hd : slotD E1[i]? with
    | none =>
      rw [hd] at h1
      cases h1
    | some d =>
      rw [hd] at h1
      obtain ⟨w, hw, rfl⟩ := ofO_some h1
      obtain ⟨v', hv1, hq, hsq⟩ := R1.slot hd
      rw [hv0] at hv1
      cases hv1
      have fin : ∀ v', Dq X.K (frz ow1 H1) v' w → Q v' H1 := fun v' q => k ow1 H1 v' R1 S1 q
      unfold ixD at hw
      split at hw
      · cases q1
        obtain ⟨a, vs, t, rfl, hs1, ht, ha⟩ := hsq _ (.inl rfl)
        obtain ⟨v2, h2, h3⟩ := ha.at hw
        have et : t = false := by
          cases t with
          | false => rfl
          | true => exact absurd (ht.mp rfl) (by simp)
        subst et
        exact .inl ⟨_, _, _, v2, rfl, rfl, hs1, h2, fin v2 h3⟩
      · cases q1
        obtain ⟨a, vs, t, rfl, hs1, ht, ha⟩ := hsq _ (.inr rfl)
        obtain ⟨v2, h2, h3⟩ := ha.at hw
        have et : t = true := ht.mpr rfl
        subst et
        exact .inr (.inl ⟨_, _, _, v2, rfl, rfl, hs1, h2, fin v2 h3⟩)
      · rename_i z' i'
        cases q1
        cases hq
        by_cases hl : z'.length ≤ sizeLine
        · rw [if_pos hl] at hw
          cases q : atI z'.cps.toList i' with
          | none =>
            rw [q] at hw
            cases hw
          | some c =>
            rw [q] at hw
            have ez := Option.some.inj hw
            subst ez
            exact .inr (.inr ⟨z', i', c, rfl, rfl, hl, q, fin _ (.str _)⟩)
        · rw [if_neg hl] at hw
          cases hw
      · cases hw
  · rw [if_neg hi] at hz
    cases hz
/-! ### x == e, x != e, e in x: x a name -/
/-- the left one a name -/
def m2V (op : PyData → PyData → Option PyData) (i : Nat) (g : M PyData) : M PyData := fun E => if (slotD E[i]?).isSome = true then bnd g (fun e E1 => match slotD E1[i]? with
  | some d => ofO (op d e) E1
  | none => none) E else none
/-- the right one a name -/
def m2W (op : PyData → PyData → Option PyData) (f : M PyData) (i : Nat) : M PyData := bnd f fun d E1 => match slotD E1[i]? with
  | some e => (match op d e with
    | some (.bool b) => some (.ok (.bool b) E1)
    | _ => none)
  | none => none
variable {r : R2} {op : PyData → PyData → Option PyData}
def isBo : PyData → Bool
  | .bool _ => true
  | _ => false
theorem tE_opV (hd : OpS K r op) (hb : ∀ d e z, op d e = some z → isBo z = true) (h : tE K W (m2V op i g) σ H Q) : tOp r (tVar i) (tE K W g) σ H Q := by
  obtain ⟨ow, E, rr, z, hz, k⟩ := h
  unfold m2V at hz
  by_cases hi : (slotD E[i]?).isSome = true
  · rw [if_pos hi] at hz
    obtain ⟨d0, hd0⟩ := Option.isSome_iff_exists.mp hi
    obtain ⟨v, hv0, _⟩ := rr.slot hd0
    refine ⟨v, hv0, ?_⟩
    refine tE_bnd rr hz (fun c fs E1 e => by subst e; exact k) fun e E1 h1 ow1 H1 u R1 S1 q1 => ?_
    cases hd1 : slotD E1[i]? with
    | none =>
      rw [hd1] at h1
      cases h1
    | some d =>
      rw [hd1] at h1
      obtain ⟨w, hw, rfl⟩ := ofO_some h1
      obtain ⟨v', hv1, hq, _⟩ := R1.slot hd1
      rw [hv0] at hv1
      cases hv1
      exact hd H1 v u d e w Q hq (Dq.same frz_sub e u q1) hw fun b eb => k ow1 H1 _ R1 S1 (by rw [eb]; exact .bl b)
  · rw [if_neg hi] at hz
    cases hz
theorem tE_opW (hd : OpS K r op) (h : tE K W (m2W op f i) σ H Q) : tOp r (tE K W f) (tVar i) σ H Q := by
  obtain ⟨ow, E, rr, z, hz, k⟩ := h
  refine tE_bnd rr hz (fun c fs E1 e => by subst e; exact k) fun d E1 h1 ow1 H1 v R1 S1 q1 => ?_
  cases hd1 : slotD E1[i]? with
  | none =>
    rw [hd1] at h1
    cases h1
  | some e =>
    rw [hd1] at h1
    obtain ⟨u, hu, hq, _⟩ := R1.slot hd1
    refine ⟨u, hu, ?_⟩
    cases ho : op d e with
    | none =>
      simp only [ho] at h1
      cases h1
    | some w =>
      simp only [ho] at h1
      refine hd H1 v u d e w Q (Dq.same frz_sub d v q1) hq ho fun b eb => ?_
      subst eb
      have ez := Option.some.inj h1
      subst ez
      exact k ow1 H1 _ R1 S1 (.bl b)
theorem isBo_eq : ∀ d e z, eqD d e = some z → isBo z = true := fun d e z h => by
  unfold eqD at h
  cases q : eqO d e with
  | none =>
    rw [q] at h
    cases h
  | some b =>
    rw [q] at h
    rw [← Option.some.inj h]
    rfl
theorem isBo_ne : ∀ d e z, neD d e = some z → isBo z = true := fun d e z h => by
  obtain ⟨_, e⟩ := lim_of h
  rw [← e]
  rfl
theorem de_cmpV {x : Str} {px : Pos} {o : CmpOp} (ho : OpR X (compareOp o) r) (hd : OpS X.K r op) (hbo : ∀ d e z, op d e = some z → isBo z = true) (hv : PE X (.Name x px) (tVar i)) (hb : PE X b (tE X.K W g)) (hm : behindInMarks o b = false) : PE X (.Compare (.Name x px) [o] [b] pos) (tE X.K W (m2V op i g)) :=
  PE.imp (pe_cmpR ho hv hb hm) fun _ _ _ h => tE_opV hd hbo h
theorem dt_cmpV {x : Str} {px : Pos} {o : CmpOp} (ho : OpR X (compareOp o) r) (hd : OpS X.K r op) (hbo : ∀ d e z, op d e = some z → isBo z = true) (hv : PE X (.Name x px) (tVar i)) (hb : PE X b (tE X.K W g)) (hm : behindInMarks o b = false) : PT X (.Compare (.Name x px) [o] [b] pos) (tT X.K W (asB (m2V op i g))) :=
  PT.imp (pt_cmpR ho hv hb hm) fun _ _ _ h => tE_opV hd hbo (tB_of h)
theorem de_cmpW {x : Str} {px : Pos} {o : CmpOp} (ho : OpR X (compareOp o) r) (hd : OpS X.K r op) (ha : PE X a (tE X.K W f)) (hv : PE X (.Name x px) (tVar i)) (hm : behindInMarks o (.Name x px) = false) : PE X (.Compare a [o] [.Name x px] pos) (tE X.K W (m2W op f i)) :=
  PE.imp (pe_cmpR ho ha hv hm) fun _ _ _ h => tE_opW hd h
theorem dt_cmpW {x : Str} {px : Pos} {o : CmpOp} (ho : OpR X (compareOp o) r) (hd : OpS X.K r op) (ha : PE X a (tE X.K W f)) (hv : PE X (.Name x px) (tVar i)) (hm : behindInMarks o (.Name x px) = false) : PT X (.Compare a [o] [.Name x px] pos) (tT X.K W (asB (m2W op f i))) :=
  PT.imp (pt_cmpR ho ha hv hm) fun _ _ _ h => tE_opW hd (tB_of h)
/-! ### methods that change a list -/
/-- what a method does to the list, what it answers -/
def mutV (i : Nat) (op : List PyData → List PyData → Option (PyData × List PyData)) (f : M (List PyData)) : M PyData := fun E => match E[i]? with
  | some (.own _) => bnd f (fun es E1 => match E1[i]? with
    | some (.own ds) => (match op ds es with
      | some (d, ds') => some (.ok d (E1.set i (.own ds')))
      | none => none)
    | _ => none) E
  | _ => none
def MutD (K : PySem.W.Frag) (r : V → List V → Hp → VK → Prop) (op : List PyData → List PyData → Option (PyData × List PyData)) : Prop := ∀ (F H : Hp) (a : Addr) (vs ws : List V) (ds es ds' : List PyData) (d : PyData) (Q : VK), H a = some (.lst vs) → F a = none → Same F H → DqAll K F vs ds → DqAll K F ws es → op ds es = some (d, ds') →
  (∀ v vs', DqAll K F vs' ds' → Dq K F v d → Q v (upd H a (.lst vs'))) → r (.ref a) ws H Q
theorem tE_mut {rm : V → List V → Hp → VK → Prop} {mo : List PyData → List PyData → Option (PyData × List PyData)} (hd : MutD K rm mo) (h : tE K W (mutV i mo fa) σ H Q) : tBM K "list" rm (tVar i) (tA K W fa) σ H Q := by
  obtain ⟨ow, E, rr, z, hz, k⟩ := h
  unfold mutV at hz
  cases q : E[i]? with
  | none =>
    rw [q] at hz
    cases hz
  | some s =>
    cases s with
    | own ds0 =>
      simp only [q] at hz
      obtain ⟨a, vs0, h0, h1, h2, h3⟩ := rr.own q
      refine ⟨.ref a, h0, .inl ⟨rfl, vs0, .inl (.inl h2)⟩, ?_⟩
      refine tA_bnd rr hz (fun c fs E1 e => by subst e; exact k) fun es E1 g1 ow1 H1 ws R1 S1 q1 => ?_
      cases q2 : E1[i]? with
      | none =>
        simp only [q2] at g1
        cases g1
      | some s =>
        cases s with
        | own ds =>
          simp only [q2] at g1
          obtain ⟨a', vs, k0, k1, k2, k3⟩ := R1.own q2
          rw [h0] at k0
          cases k0
          cases hop : mo ds es with
          | none =>
            simp only [hop] at g1
            cases g1
          | some w =>
            obtain ⟨d, ds'⟩ := w
            simp only [hop] at g1
            have ez := Option.some.inj g1
            subst ez
            refine hd (frz ow1 H1) H1 a vs ws ds es ds' d Q k2 (frz_no (by rw [k1]; simp)) frz_sub k3 q1 hop fun v vs' z1 z2 => ?_
            have S := S1.trans (Stp.put (H := H1) (o := .lst vs') k1)
            refine k ow1 _ v (R1.put h0 k1 z1) S ?_
            rw [frz_upd (by rw [k1]; simp)]
            exact z2
        | _ =>
          simp only [q2] at g1
          cases g1
    | _ =>
      simp only [q] at hz
      cases hz
theorem de_mut {x : Str} {px apos : Pos} {name : Str} {id : String} {rm : V → List V → Hp → VK → Prop} {mo : List PyData → List PyData → Option (PyData × List PyData)} (slot : PySem.Slot "list" name id) (hty : typeOf (.builtin id) = pure (.type "method_descriptor")) (hm : MtM X id rm) (hd : MutD X.K rm mo) (hv : PE X (.Name x px) (tVar i)) (ha : PA X (e :: es) (tA X.K W fa))
    (b1 : attributeBase (.Name x px) name X.env (eval (.Name x px) X.env) = eval (.Name x px) X.env := by rfl)
    (b2 : ((backTo pos (starEach (e :: es) X.env)).all (fun x => !x.1) && (backToKw pos (keywordEach [] X.env)).all (fun x => x.1.isSome)
      && decide ((e :: es).length + ([] : List Keyword).length + (if ([] : List Keyword).isEmpty then 0 else 1) < 30)) = true := by rfl)
    (b3 : (apos.endLine == pos.line) = true := by rfl) (b4 : starEach (e :: es) X.env = (false, eval e X.env) :: starEach es X.env := by rfl) (b5 : (backTo pos (starEach es X.env)).any (·.1) = false := by rfl) :
    PE X (.Call (.Attribute (.Name x px) name apos) (e :: es) [] pos) (tE X.K W (mutV i mo fa)) :=
  PE.imp (pe_bm PySem.F.plainAttrs_list slot hty hm hv ha b1 b2 b3 b4 b5) fun _ _ _ h => tE_mut hd h
def appM : List PyData → List PyData → Option (PyData × List PyData)
  | ds, [d] => if ds.length < sizeLine then some (.none, ds ++ [d]) else none
  | _, _ => none
theorem appM_ok : MutD K rAppend appM := by
  intro F H a vs ws ds es ds' d Q ha hF s h1 h2 hop k
  unfold appM at hop
  split at hop
  · obtain ⟨hl, ee⟩ := lim_of hop
    cases ee
    cases h2 with
    | cons z1 z2 =>
      cases z2
      exact ⟨a, vs, _, rfl, rfl, ha, by rw [h1.length]; exact hl, k .non _ (h1.snoc z1) .non⟩
  · cases hop
def popM : List PyData → List PyData → Option (PyData × List PyData)
  | ds, [.int i] => if -(2 ^ 63) ≤ i ∧ i < 2 ^ 63 then (match seqIndex? i ds.length with
    | some j => (match ds[j]? with
      | some d => some (d, ds.eraseIdx j)
      | none => none)
    | none => none) else none
  | _, _ => none
theorem popM_ok : MutD K rPopAt popM := by
  intro F H a vs ws ds es ds' d Q ha hF s h1 h2 hop k
  unfold popM at hop
  split at hop
  · cases h2 with
    | cons z1 z2 =>
      cases z2
      cases z1
      rename_i i
      by_cases hi : -(2 ^ 63) ≤ i ∧ i < 2 ^ 63
      · rw [if_pos hi] at hop
        split at hop
        · rename_i j hj
          split at hop
          · rename_i d' hd'
            cases hop
            obtain ⟨v, hv, hq⟩ := h1.get j hd'
            exact ⟨a, vs, i, j, v, rfl, rfl, ha, hi.1, hi.2, by rw [h1.length]; exact hj, hv, k v _ (h1.erase j) hq⟩
          · cases hop
        · cases hop
      · rw [if_neg hi] at hop
        cases hop
  · cases hop
def extM : List PyData → List PyData → Option (PyData × List PyData)
  | ds, [.list es] => if ds.length + es.length ≤ sizeLine then some (.none, ds ++ es) else none
  | _, _ => none
end
end Sa

set_option maxHeartbeats 4000000
/-! The data layer: targets, walks, statements. -/
namespace Sa
open PySem PySem.Spec PyProof.Rows L2 He NdefX RZ
/-! ### targets -/
inductive Tg where
  | nm (i : Nat)
  | tp (ts : List Tg)
mutual
def setT : Tg → PyData → En → Option En
  | .nm i, d, E => some (E.set i (.dat d))
  | .tp ts, .tuple ds, E => setTs ts ds E
  | .tp _, _, _ => none
def setTs : List Tg → List PyData → En → Option En
  | [], [], E => some E
  | t :: ts, d :: ds, E => (setT t d E).bind fun E1 => setTs ts ds E1
  | _, _, _ => none
end
/-- a value that a target takes -/
def DqT (K : PySem.W.Frag) (F : Hp) (v : V) (d : PyData) : Tg → Prop
  | .nm _ => Dq K F v d
  | .tp _ => ∃ a xs ds, v = .ref a ∧ SqT K F a xs ∧ d = .tuple ds ∧ DqAll K F xs ds
section
variable {X : Cx} {K : PySem.W.Frag} {W : XK} {σ : L2.St} {H : Hp} {ow : Ow} {E : En}
theorem Dq.t {F : Hp} {v : V} {d : PyData} {t : Tg} {E E' : En} (h : Dq K F v d) (e : setT t d E = some E') : DqT K F v d t := by
  cases t with
  | nm i => exact h
  | tp ts =>
    cases d with
    | tuple ds =>
      cases h with
      | tup hs ha => exact ⟨_, _, ds, rfl, hs.sq, rfl, ha⟩
    | _ =>
      unfold setT at e
      cases e
theorem DqT.same {F F' : Hp} {v : V} {d : PyData} {t : Tg} (s : Same F F') (h : DqT K F v d t) : DqT K F' v d t := by
  cases t with
  | nm i => exact Dq.same s d v h
  | tp ts =>
    obtain ⟨a, xs, ds, h1, h2, h3, h4⟩ := h
    exact ⟨a, xs, ds, h1, Same.seqT s h2, h3, Dq.sameAll s ds xs h4⟩
def tG (K : PySem.W.Frag) (own : List Nat) (t : Tg) : TG := fun v σ H Q => ∃ ow E, R K ow E σ H ∧ ∃ d E', DqT K (frz ow H) v d t ∧ setT t d E = some E' ∧ ∀ σ', R K ow E' σ' H → wipe σ' own = wipe σ own → Q σ' H
def tGs (K : PySem.W.Frag) (own : List Nat) (ts : List Tg) : TGs := fun vs σ H Q => ∃ ow E, R K ow E σ H ∧ ∃ ds E', DqAll K (frz ow H) vs ds ∧ setTs ts ds E = some E' ∧ ∀ σ', R K ow E' σ' H → wipe σ' own = wipe σ own → Q σ' H
theorem wipe_set {σ : L2.St} {i : Nat} {v : Option V} : ∀ {own : List Nat}, i ∈ own → wipe (σ.set i v) own = wipe σ own
  | [], h => by cases h
  | j :: js, h => by
    unfold wipe
    by_cases e : i ∈ js
    · rw [wipe_set e]
    · have ej : i = j := by
        rcases List.mem_cons.mp h with e' | e'
        · exact e'
        · exact absurd e' e
      subst ej
      have com : ∀ {js : List Nat}, i ∉ js → wipe (σ.set i v) js = (wipe σ js).set i v := fun {js} => by
        induction js with
        | nil => exact fun _ => rfl
        | cons k ks ih =>
          intro hn
          have h1 : i ≠ k := fun e => hn (by rw [e]; exact List.mem_cons_self)
          have h2 : i ∉ ks := fun e => hn (List.mem_cons_of_mem _ e)
          show (wipe (σ.set i v) ks).set k none = ((wipe σ ks).set k none).set i v
          rw [ih h2, List.set_comm _ _ h1]
      rw [com e, List.set_set]
theorem PG.imp {e : Expr} {t u : TG} (h : PG X e t) (k : ∀ v σ H Q, u v σ H Q → t v σ H Q) : PG X e u := ⟨fun pins s σ H v w Q I r hw => h.run pins s σ H v w Q I r (k _ _ _ _ hw)⟩
theorem PGs.imp {es : List Expr} {t u : TGs} (h : PGs X es t) (k : ∀ v σ H Q, u v σ H Q → t v σ H Q) : PGs X es u := ⟨fun pins s σ H v w Q I r hw => h.run pins s σ H v w Q I r (k _ _ _ _ hw)⟩
variable {own : List Nat} {pos : Pos}
theorem dg_name {i : Nat} {x : Str} (h : PG X (.Name x pos) (gName i)) (hi : i ∈ own := by decide) : PG X (.Name x pos) (tG X.K own (.nm i)) := by
  refine PG.imp h fun v σ H Q h => ?_
  obtain ⟨ow, E, rr, d, E', hd, he, k⟩ := h
  unfold setT at he
  have e := Option.some.inj he
  subst e
  exact k _ (rr.set hd) (wipe_set hi)
theorem dgs_nil : PGs X [] (tGs X.K own []) := by
  refine PGs.imp pgs_nil fun v σ H Q h => ?_
  obtain ⟨ow, E, rr, ds, E', hd, he, k⟩ := h
  cases ds with
  | nil =>
    cases hd
    unfold setTs at he
    have e := Option.some.inj he
    subst e
    exact ⟨rfl, k _ rr rfl⟩
  | cons d ds =>
    unfold setTs at he
    cases he
theorem dgs_cons {e : Expr} {es : List Expr} {t : Tg} {ts : List Tg} (h1 : PG X e (tG X.K own t)) (h2 : PGs X es (tGs X.K own ts))
    (hs : (assignEach (e :: es) X.env).map (·.2) = assign e X.env :: (assignEach es X.env).map (·.2) := by rfl) : PGs X (e :: es) (tGs X.K own (t :: ts)) := by
  refine PGs.imp (pgs_cons h1 h2 hs) fun v σ H Q h => ?_
  obtain ⟨ow, E, rr, ds, E', hd, he, k⟩ := h
  cases ds with
  | nil =>
    unfold setTs at he
    cases he
  | cons d ds =>
    cases hd with
    | cons z1 z2 =>
      rename_i v vs
      unfold setTs at he
      cases q : setT t d E with
      | none =>
        rw [q] at he
        cases he
      | some E1 =>
        rw [q] at he
        exact ⟨v, vs, rfl, ow, E, rr, d, E1, z1.t q, q, fun σ1 r1 w1 => ⟨ow, E1, r1, ds, E', z2, he, fun σ2 r2 w2 => k σ2 r2 (w2.trans w1)⟩⟩
theorem setTs_len : ∀ {ts : List Tg} {ds : List PyData} {E E' : En}, setTs ts ds E = some E' → ds.length = ts.length
  | [], [], _, _, _ => rfl
  | [], _ :: _, _, _, h => by unfold setTs at h; cases h
  | _ :: _, [], _, _, h => by unfold setTs at h; cases h
  | t :: ts, d :: ds, E, E', h => by
    unfold setTs at h
    cases q : setT t d E with
    | none =>
      rw [q] at h
      cases h
    | some E1 =>
      rw [q] at h
      simp [setTs_len (show setTs ts ds E1 = some E' from h)]
theorem dg_tup {es : List Expr} {k : Nat} {ts : List Tg} (hc : X.calm = true) (h : PGs X es (tGs X.K own ts))
    (hn : (assignEach es X.env).length = ts.length := by rfl) (hst : (assignEach es X.env).findIdx? (·.1) = none := by rfl) : PG X (.Tuple es k pos) (tG X.K own (.tp ts)) := by
  refine PG.imp (pg_tup hc h hn hst) fun v σ H Q h => ?_
  obtain ⟨ow, E, rr, d, E', hd, he, k⟩ := h
  obtain ⟨a, xs, ds, rfl, h1, rfl, h3⟩ := hd
  unfold setT at he
  exact ⟨a, xs, rfl, Same.seqT frz_sub h1, by rw [h3.length]; exact setTs_len he, ow, E, rr, ds, E', h3, he, k⟩
/-! ### what is walked -/
structure WkD (K : PySem.W.Frag) (ow : Ow) (H : Hp) (J : It) (t : Tg) (ds : List PyData) : Prop where
  few : ds.length ≤ sizeLine
  ex : ∃ (G : Hp → Prop) (Y : Nat → Hp → V → Hp → Prop), Walk J ds.length G Y ∧ (∀ ow' H', Same (frz ow H) (frz ow' H') → G H') ∧
    ∀ (i : Nat) (ow' : Ow) (H1 : Hp) (v : V) (H2 : Hp), i < ds.length → Same (frz ow H) (frz ow' H1) → (∀ b, ow' b ≠ none → H1 b ≠ none) → Y i H1 v H2 → ∃ d, ds[i]? = some d ∧ Same H1 H2 ∧ DqT K (frz ow' H2) v d t
def tI (K : PySem.W.Frag) (W : XK) (t : Tg) (f : M (List PyData)) : TI := fun σ H Rw => ∃ ow E, R K ow E σ H ∧ ∃ r, f E = some r ∧
  match r with
  | .ok ds E' => ∀ ow' H' J, R K ow' E' σ H' → Stp ow ow' H H' → WkD K ow' H' J t ds → Rw J H'
  | .ex c fs _ => ∀ ow' H' cls dv, Stp ow ow' H H' → XcAt K (frz ow' H') cls dv c fs → W cls dv H'
theorem PI.imp {tg e : Expr} {t u : TI} (h : PI X tg e t) (k : ∀ σ H Q, u σ H Q → t σ H Q) : PI X tg e u := ⟨fun pins s σ H Q I hw => h.run pins s σ H Q I (k _ _ _ hw)⟩
/-- a list, a tuple or a text -/
def iAny (K : PySem.W.Frag) (tl : TE) : TI := fun σ H Rw => tl σ H fun x H1 => (∃ a xs, x = .ref a ∧ SqL K H1 a xs ∧ (xs.length ≤ sizeLine → Rw (Itl K a) H1)) ∨ (∃ a xs, x = .ref a ∧ SqT K H1 a xs ∧ (xs.length ≤ sizeLine → Rw (Itt K a) H1)) ∨ ∃ z, x = .str z ∧ Rw (Its z) H1
theorem pi_any {tg l : Expr} {tl : TE} (hl : PE X l tl) : PI X tg l (iAny X.K tl) := by
  refine ⟨fun pins s σ H Rw J h => ?_⟩
  refine thn (hl.run pins s σ H _ J h) ?_
  rintro v s1 ⟨x, H1, J1, r1, q⟩
  rcases q with ⟨a, xs, rfl, seq, q⟩ | ⟨a, xs, rfl, seq, q⟩ | ⟨z, rfl, q⟩
  · obtain rfl : v = Value.ref a := r1
    obtain ⟨its, rv, p, hz⟩ := J1.list seq
    exact wpAny_pyIter_list p.isList (pi_one (tk := s1.toks) J1 _ (turn_list a _) ⟨_, Heap.get?_push_size _ rfl, rfl, rfl⟩ (q hz))
  · obtain rfl : v = Value.ref a := r1
    obtain ⟨its, rv, p, hz⟩ := J1.tuple seq
    exact wpAny_pyIter_tuple (show s1.heap.IsTuple a its.toArray from p) (pi_one (tk := s1.toks) J1 _ (turn_tuple a _) ⟨_, Heap.get?_push_size _ rfl, rfl, rfl⟩ (q hz))
  · obtain ⟨t, rfl⟩ := r1
    cases wide : z.cps.all (· < 128)
    · exact wpAny_pyIter_wide wide (pi_one (tk := s1.toks) J1 _ (turn_str _ z t "str_iterator" (.inr rfl)) ⟨_, Heap.get?_push_size _ rfl, rfl, rfl⟩ q)
    · exact wpAny_pyIter_ascii wide (pi_one (tk := s1.toks) J1 _ (turn_str _ z t "str_ascii_iterator" (.inl rfl)) ⟨_, Heap.get?_push_size _ rfl, rfl, rfl⟩ q)

/-- what a walk yields, as data -/
def itO : PyData → Option (List PyData)
  | .list ds => some ds
  | .tuple ds => some ds
  | .str z => if z.cps.toList.length ≤ sizeLine then some (z.cps.toList.map fun c => .str ⟨#[c]⟩) else none
  | _ => none
def itE (f : M PyData) : M (List PyData) := bnd f fun d => ofO (itO d)
def DqO (t : Tg) : Bool := match t with | .nm _ => true | .tp _ => false
/-- that the items fit the target: for a target of several names each is a tuple -/
def fitT : Tg → PyData → Bool
  | .nm _, _ => true
  | .tp _, .tuple _ => true
  | .tp _, _ => false
theorem Dq.fit {F : Hp} {v : V} {d : PyData} {t : Tg} (h : Dq K F v d) (e : fitT t d = true) : DqT K F v d t := by
  cases t with
  | nm i => exact h
  | tp ts =>
    cases d with
    | tuple ds =>
      cases h with
      | tup hs ha => exact ⟨_, _, ds, rfl, hs.sq, rfl, ha⟩
    | _ => cases e
def itF (t : Tg) (f : M PyData) : M (List PyData) := bnd f fun d => ofO ((itO d).bind fun ds => if ds.all (fitT t) = true then some ds else none)
theorem seqL_stp {a : Addr} {xs : List V} {ow' : Ow} {H' : Hp} (s : Same (frz ow H) (frz ow' H')) (h : SqL K (frz ow H) a xs) : SqL K H' a xs := Same.seqL frz_sub (Same.seqL s h)
theorem seqT_stp {a : Addr} {xs : List V} {ow' : Ow} {H' : Hp} (s : Same (frz ow H) (frz ow' H')) (h : SqT K (frz ow H) a xs) : SqT K H' a xs := Same.seqT frz_sub (Same.seqT s h)
theorem wk_of {J : It} {t : Tg} {ds : List PyData} {vs : List V} {G : Hp → Prop} (hd : DqAll K (frz ow H) vs ds) (hf : ds.all (fitT t) = true) (w : Walk J vs.length G (YAt vs)) (g : ∀ ow' H', Same (frz ow H) (frz ow' H') → G H') (few : vs.length ≤ sizeLine) : WkD K ow H J t ds := by
  refine ⟨by rw [← hd.length]; exact few, G, YAt vs, by rw [← hd.length]; exact w, g, fun i ow' H1 v H2 _ s tr y => ?_⟩
  obtain ⟨rfl, hv⟩ := y
  obtain ⟨d, h1, h2⟩ := hd.get' i hv
  exact ⟨d, h1, Same.id _, (Dq.same s d v h2).fit (List.all_eq_true.mp hf d (List.mem_of_getElem? h1))⟩
theorem wk_str {z : Str} {t : Tg} (hl : z.cps.toList.length ≤ sizeLine) (hf : (z.cps.toList.map fun c => PyData.str ⟨#[c]⟩).all (fitT t) = true) : WkD K ow H (Its z) t (z.cps.toList.map fun c => PyData.str ⟨#[c]⟩) := by
  refine ⟨by rw [List.length_map]; exact hl, fun _ => True, fun i H v H' => H' = H ∧ ∃ c, z.cps[i]? = some c ∧ v = .str ⟨#[c]⟩, ?_, fun _ _ _ => trivial, fun i ow' H1' v H2 _ s tr y => ?_⟩
  · rw [List.length_map, Array.length_toList]
    exact walk_str
  · obtain ⟨rfl, c, hc, rfl⟩ := y
    have hm : (z.cps.toList.map fun c => PyData.str ⟨#[c]⟩)[i]? = some (.str ⟨#[c]⟩) := by
      rw [List.getElem?_map, Array.getElem?_toList, hc]
      rfl
    exact ⟨_, hm, Same.id _, (Dq.str _).fit (List.all_eq_true.mp hf _ (List.mem_of_getElem? hm))⟩
variable {f g : M PyData}
theorem di_e {e : Expr} {tg : Expr} {t : Tg} (h : PE X e (tE X.K W f)) : PI X tg e (tI X.K W t (itF t f)) := by
  refine PI.imp (pi_any h) fun σ H Rw h => ?_
  obtain ⟨ow, E, rr, z, hz, k⟩ := h
  refine tE_bnd rr hz (fun c fs E1 e => by subst e; exact k) fun d E1 h1 ow1 H1 v R1 S1 q1 => ?_
  obtain ⟨w, hw, rfl⟩ := ofO_some h1
  cases hi : itO d with
  | none =>
    rw [hi] at hw
    cases hw
  | some ds =>
    rw [hi] at hw
    obtain ⟨hf, e⟩ := lim_of (show (if ds.all (fitT t) = true then some ds else none) = some w from hw)
    subst e
    have kk := k ow1 H1
    cases d with
    | list es =>
      have e := Option.some.inj hi
      subst e
      cases q1 with
      | lst hs ha =>
        rename_i a vs
        exact .inl ⟨a, vs, rfl, Same.seqL frz_sub hs, fun few => kk _ R1 S1 (wk_of ha hf walk_list (fun ow' H' s => seqL_stp s hs) few)⟩
    | tuple es =>
      have e := Option.some.inj hi
      subst e
      cases q1 with
      | tup hs ha =>
        rename_i a vs
        exact .inr (.inl ⟨a, vs, rfl, Same.seqT frz_sub hs.sq, fun few => kk _ R1 S1 (wk_of ha hf walk_tup (fun ow' H' s => seqT_stp s hs.sq) few)⟩)
    | str z =>
      obtain ⟨hl, e⟩ := lim_of hi
      subst e
      cases q1
      exact .inr (.inr ⟨z, rfl, kk _ R1 S1 (wk_str hl hf)⟩)
    | _ => cases hi
/-- range(n), range(a, b) -/
def rngL (lo hi : Int) : List PyData := (List.range (hi - lo).toNat).map fun k => .int (lo + (k : Nat))
def rng1 (f : M (List PyData)) : M (List PyData) := bnd f fun ds => match ds with
  | [.int j] => if (-(2 ^ 62) ≤ j ∧ j < 2 ^ 62) ∧ j.toNat ≤ sizeLine then ret (rngL 0 j) else die
  | _ => die
def rng2 (f : M (List PyData)) : M (List PyData) := bnd f fun ds => match ds with
  | [.int i, .int j] => if (-(2 ^ 62) ≤ i ∧ i < 2 ^ 62 ∧ -(2 ^ 62) ≤ j ∧ j < 2 ^ 62) ∧ (j - i).toNat ≤ sizeLine then ret (rngL i j) else die
  | _ => die
theorem rngL_len (lo hi : Int) : (rngL lo hi).length = (hi - lo).toNat := by
  unfold rngL
  simp
theorem wk_rng {i : Nat} {lo : Int} {n : Nat} (hi : Int) (hn : n = (hi - lo).toNat) (few : n ≤ sizeLine) : WkD K ow H (Itr lo n) (.nm i) (rngL lo hi) := by
  subst hn
  refine ⟨by rw [rngL_len]; exact few, fun _ => True, YFn fun i => .int (lo + i), by rw [rngL_len]; exact walk_range, fun _ _ _ => trivial, fun j ow' H1 v H2 hj s tr y => ?_⟩
  obtain ⟨rfl, rfl⟩ := y
  rw [rngL_len] at hj
  refine ⟨.int (lo + (j : Nat)), ?_, Same.id _, Dq.int _⟩
  unfold rngL
  rw [List.getElem?_map, List.getElem?_range hj]
  rfl
variable {fa : M (List PyData)} {a b : Expr} {p : Pos}
theorem di_range1 {tg : Expr} {i : Nat} (hm : X.mg "range" = none) (ha : PA X [a] (tA X.K W fa)) {x : Str} (ex : x = "range" := by rfl) (hg : Gl X x := by rfl) (hs : starEach [a] X.env = [(false, eval a X.env)] := by rfl) : PI X tg (.Call (.Name x p) [a] [] pos) (tI X.K W (.nm i) (rng1 fa)) := by
  subst ex
  refine PI.imp (pi_range1 hg hm ha hs) fun σ H Rw h => ?_
  obtain ⟨ow, E, rr, z, hz, k⟩ := h
  refine tA_bnd rr hz (fun c fs E1 e => by subst e; exact k) fun ds E1 h1 ow1 H1 vs R1 S1 q1 => ?_
  match ds, h1, q1 with
  | [.int j], h1, .cons (.int _) .nil =>
    obtain ⟨⟨⟨l1, l2⟩, l3⟩, h1⟩ := lim_some h1
    have e := Option.some.inj h1
    subst e
    exact ⟨j, rfl, l1, l2, k ow1 H1 _ R1 S1 (wk_rng j (by simp) l3)⟩
theorem di_range2 {tg : Expr} {i : Nat} (hm : X.mg "range" = none) (ha : PA X [a, b] (tA X.K W fa)) {x : Str} (ex : x = "range" := by rfl) (hg : Gl X x := by rfl) (hs : starEach [a, b] X.env = [(false, eval a X.env), (false, eval b X.env)] := by rfl) (hs2 : starEach [b] X.env = [(false, eval b X.env)] := by rfl) : PI X tg (.Call (.Name x p) [a, b] [] pos) (tI X.K W (.nm i) (rng2 fa)) := by
  subst ex
  refine PI.imp (pi_range2 hg hm ha hs hs2) fun σ H Rw h => ?_
  obtain ⟨ow, E, rr, z, hz, k⟩ := h
  refine tA_bnd rr hz (fun c fs E1 e => by subst e; exact k) fun ds E1 h1 ow1 H1 vs R1 S1 q1 => ?_
  match ds, h1, q1 with
  | [.int i, .int j], h1, .cons (.int _) (.cons (.int _) .nil) =>
    obtain ⟨⟨l, l3⟩, h1⟩ := lim_some h1
    have e := Option.some.inj h1
    subst e
    exact ⟨i, j, rfl, l, k ow1 H1 _ R1 S1 (wk_rng j rfl l3)⟩
/-- pairs of two walks -/
theorem wk_pair {J : It} {ts : List Tg} {xs ys : Nat → Option V} {G : Hp → Prop} {ds : List PyData} (w : Walk J ds.length G (YPair xs ys)) (g : ∀ ow' H', Same (frz ow H) (frz ow' H') → G H')
    (hd : ∀ i x y, xs i = some x → ys i = some y → i < ds.length → ∃ d e, ds[i]? = some (.tuple [d, e]) ∧ Dq K (frz ow H) x d ∧ Dq K (frz ow H) y e) (few : ds.length ≤ sizeLine) : WkD K ow H J (.tp ts) ds := by
  refine ⟨few, G, YPair xs ys, w, g, fun i ow' H1 v H2 hi s tr yy => ?_⟩
  obtain ⟨T, x, y, rfl, hT, rfl, h1, h2⟩ := yy
  obtain ⟨d, e, h3, h4, h5⟩ := hd i x y h1 h2 hi
  have s2 : Stp ow' ow' H1 (upd H1 T (.tup [x, y])) := Stp.new hT
  exact ⟨_, h3, Same.new hT, T, [x, y], [d, e], rfl, .inl (.inl (frz_new (own_none tr hT))), rfl, .cons (s2.dq (Dq.same s _ _ h4)) (.cons (s2.dq (Dq.same s _ _ h5)) .nil)⟩
def zipL : List PyData → List PyData → List PyData
  | d :: ds, e :: es => .tuple [d, e] :: zipL ds es
  | _, _ => []
theorem zipL_len : ∀ ds es : List PyData, (zipL ds es).length = min ds.length es.length
  | [], es => by simp [zipL]
  | _ :: _, [] => by simp [zipL]
  | d :: ds, e :: es => by simp [zipL, zipL_len ds es]
theorem zipL_get : ∀ (ds es : List PyData) (i : Nat) (d e : PyData), ds[i]? = some d → es[i]? = some e → (zipL ds es)[i]? = some (.tuple [d, e])
  | [], _, i, d, e, h, _ => by simp at h
  | _ :: _, [], i, d, e, _, h => by simp at h
  | d :: ds, e :: es, 0, _, _, h1, h2 => by
    cases h1
    cases h2
    rfl
  | d :: ds, e :: es, i + 1, _, _, h1, h2 => by
    rw [List.getElem?_cons_succ] at h1 h2
    show (zipL ds es)[i]? = _
    exact zipL_get ds es i _ _ h1 h2
/-- zip(a, b) -/
def zipE (f : M (List PyData)) : M (List PyData) := bnd f fun ds => match ds with
  | [.list xs, .list ys] => if (zipL xs ys).length ≤ sizeLine then ret (zipL xs ys) else die
  | [.tuple xs, .tuple ys] => if (zipL xs ys).length ≤ sizeLine then ret (zipL xs ys) else die
  | _ => die
theorem walk_zipT {K : PySem.W.Frag} {a b : Addr} {xs ys : List V} {n : Nat} (hn : n = min xs.length ys.length) : Walk (ItzT K a b) n (fun H => SqT K H a xs ∧ SqT K H b ys) (YPair (fun i => xs[i]?) (fun i => ys[i]?)) := by
  subst hn
  refine ⟨fun i _ hi q => ?_, fun _ q => ⟨xs, ys, q.1, q.2, by omega⟩, fun i H v H' _ q y => ?_⟩
  · have h1 : i < xs.length := by omega
    have h2 : i < ys.length := by omega
    exact ⟨xs, ys, _, _, q.1, q.2, List.getElem?_eq_getElem h1, List.getElem?_eq_getElem h2⟩
  · obtain ⟨T, x, z, h1, h2, h3, h4, h5⟩ := y
    exact ⟨T, x, z, h1, h2, h3, h4 xs q.1, h5 ys q.2⟩
theorem di_zip {elts : List Expr} {kk : Nat} {tpos : Pos} {ts : List Tg} (hm : X.mg "zip" = none) (ha : PA X [a, b] (tA X.K W fa)) {x : Str} (ex : x = "zip" := by rfl) (hg : Gl X x := by rfl)
    (hs : starEach [a, b] X.env = (false, eval a X.env) :: starEach [b] X.env := by rfl) (hpl : (backTo pos (starEach [b] X.env)).any (·.1) = false := by rfl) :
    PI X (.Tuple elts kk tpos) (.Call (.Name x p) [a, b] [] pos) (tI X.K W (.tp ts) (zipE fa)) := by
  subst ex
  refine PI.imp (pi_zipA hg hm ha hs hpl) fun σ H Rw h => ?_
  obtain ⟨ow, E, rr, z, hz, k⟩ := h
  refine tA_bnd rr hz (fun c fs E1 e => by subst e; exact k) fun ds E1 h1 ow1 H1 vs R1 S1 q1 => ?_
  match ds, h1, q1 with
  | [.list xs, .list ys], h1, .cons (.lst (a := a1) (xs := us) s1 d1) (.cons (.lst (a := a2) (xs := ws) s2 d2) .nil) =>
    obtain ⟨few, h1⟩ := lim_some h1
    have e := Option.some.inj h1
    subst e
    refine ⟨a1, a2, us, ws, rfl, .inl ⟨Same.seqL frz_sub s1, Same.seqL frz_sub s2, k ow1 H1 _ R1 S1 ?_⟩⟩
    refine wk_pair (walk_zip (by rw [zipL_len, d1.length, d2.length])) (fun ow' H' s => ⟨seqL_stp s s1, seqL_stp s s2⟩) (fun i x y hx hy _ => ?_) few
    obtain ⟨d, g1, g2⟩ := d1.get' i hx
    obtain ⟨e, g3, g4⟩ := d2.get' i hy
    exact ⟨d, e, zipL_get _ _ i d e g1 g3, g2, g4⟩
  | [.tuple xs, .tuple ys], h1, .cons (.tup (a := a1) (xs := us) s1 d1) (.cons (.tup (a := a2) (xs := ws) s2 d2) .nil) =>
    obtain ⟨few, h1⟩ := lim_some h1
    have e := Option.some.inj h1
    subst e
    refine ⟨a1, a2, us, ws, rfl, .inr ⟨Same.seqT frz_sub s1.sq, Same.seqT frz_sub s2.sq, k ow1 H1 _ R1 S1 ?_⟩⟩
    refine wk_pair (walk_zipT (by rw [zipL_len, d1.length, d2.length])) (fun ow' H' s => ⟨seqT_stp s s1.sq, seqT_stp s s2.sq⟩) (fun i x y hx hy _ => ?_) few
    obtain ⟨d, g1, g2⟩ := d1.get' i hx
    obtain ⟨e, g3, g4⟩ := d2.get' i hy
    exact ⟨d, e, zipL_get _ _ i d e g1 g3, g2, g4⟩
end
end Sa

set_option maxHeartbeats 4000000
/-! The data layer: statements, loops, comprehensions. -/
namespace Sa
open PySem PySem.Spec PyProof.Rows L2 He NdefX RZ
inductive Out where
  | nx (E : En)
  | rt (d : PyData) (E : En)
  | bk (E : En)
  | ct (E : En)
  | ex (c : Str) (fs : Option (List (Str × PyData))) (E : En)
abbrev SM := En → Option Out
/-- of an outcome: what is wanted -/
def OutP (K : PySem.W.Frag) (W : XK) (D : Ends) (ow : Ow) (H : Hp) : Out → Prop
  | .nx E' => ∀ ow' H' σ', R K ow' E' σ' H' → Stp ow ow' H H' → D.nx σ' H'
  | .rt d E' => ∀ ow' H' σ' v, R K ow' E' σ' H' → Stp ow ow' H H' → Dq K (frz ow' H') v d → D.rt v H'
  | .bk E' => ∀ ow' H' σ', R K ow' E' σ' H' → Stp ow ow' H H' → D.bk σ' H'
  | .ct E' => ∀ ow' H' σ', R K ow' E' σ' H' → Stp ow ow' H H' → D.ct σ' H'
  | .ex c fs _ => ∀ ow' H' cls dv, Stp ow ow' H H' → XcAt K (frz ow' H') cls dv c fs → W cls dv H'
def tS (K : PySem.W.Frag) (W : XK) (g : SM) : TS := fun D σ H => ∃ ow E, R K ow E σ H ∧ ∃ o, g E = some o ∧ OutP K W D ow H o
theorem OutP.from_ {K : PySem.W.Frag} {W : XK} {D : Ends} {ow ow1 : Ow} {H H1 : Hp} {o : Out} (h : OutP K W D ow H o) (s : Stp ow ow1 H H1) : OutP K W D ow1 H1 o := by
  cases o with
  | nx E => exact fun ow' H' σ' r t => h ow' H' σ' r (s.trans t)
  | rt d E => exact fun ow' H' σ' v r t q => h ow' H' σ' v r (s.trans t) q
  | bk E => exact fun ow' H' σ' r t => h ow' H' σ' r (s.trans t)
  | ct E => exact fun ow' H' σ' r t => h ow' H' σ' r (s.trans t)
  | ex c fs E => exact fun ow' H' cls dv t q => h ow' H' cls dv (s.trans t) q
/-- an expression, then the rest -/
def thenS {α : Type} (f : M α) (k : α → SM) : SM := fun E => match f E with
  | none => none
  | some (.ok a E1) => k a E1
  | some (.ex c fs E1) => some (.ex c fs E1)
theorem thenS_some {α : Type} {f : M α} {k : α → SM} {E : En} {o : Out} (h : thenS f k E = some o) : (∃ a E1, f E = some (.ok a E1) ∧ k a E1 = some o) ∨ ∃ c fs E1, f E = some (.ex c fs E1) ∧ o = .ex c fs E1 := by
  unfold thenS at h
  cases q : f E with
  | none =>
    rw [q] at h
    cases h
  | some r =>
    rw [q] at h
    cases r with
    | ok a E1 => exact .inl ⟨a, E1, rfl, h⟩
    | ex c fs E1 => exact .inr ⟨c, fs, E1, rfl, (Option.some.inj h).symm⟩
section
variable {X : Cx} {K : PySem.W.Frag} {W : XK} {σ : L2.St} {H : Hp} {ow : Ow} {E : En} {D : Ends} {pos : Pos}
theorem tE_then {f : M PyData} {k : PyData → SM} {o : Out} (rr : R K ow E σ H) (h : thenS f k E = some o) (hp : OutP K W D ow H o) {Q : VK}
    (ho : ∀ d E1, k d E1 = some o → ∀ ow' H' v, R K ow' E1 σ H' → Stp ow ow' H H' → Dq K (frz ow' H') v d → Q v H') : tE K W f σ H Q := by
  rcases thenS_some h with ⟨d, E1, h1, h2⟩ | ⟨c, fs, E1, h1, h2⟩
  · exact ⟨ow, E, rr, _, h1, fun ow' H' v r' s' z => ho d E1 h2 ow' H' v r' s' z⟩
  · subst h2
    exact ⟨ow, E, rr, _, h1, hp⟩
theorem tT_then {f : M Bool} {k : Bool → SM} {o : Out} (rr : R K ow E σ H) (h : thenS f k E = some o) (hp : OutP K W D ow H o) {Q : Bool → Hp → Prop}
    (ho : ∀ d E1, k d E1 = some o → ∀ ow' H', R K ow' E1 σ H' → Stp ow ow' H H' → Q d H') : tT K W f σ H Q := by
  rcases thenS_some h with ⟨d, E1, h1, h2⟩ | ⟨c, fs, E1, h1, h2⟩
  · exact ⟨ow, E, rr, _, h1, fun ow' H' r' s' => ho d E1 h2 ow' H' r' s'⟩
  · subst h2
    exact ⟨ow, E, rr, _, h1, hp⟩
theorem tF_then {f : M (List PyData)} {k : List PyData → SM} {o : Out} (rr : R K ow E σ H) (h : thenS f k E = some o) (hp : OutP K W D ow H o) {Q : VK}
    (ho : ∀ d E1, k d E1 = some o → ∀ ow' H' a vs, H' a = none → R K ow' E1 σ H' → Stp ow ow' H H' → DqAll K (frz ow' H') vs d → Q (.ref a) (upd H' a (.lst vs))) : tF K W f σ H Q := by
  rcases thenS_some h with ⟨d, E1, h1, h2⟩ | ⟨c, fs, E1, h1, h2⟩
  · exact ⟨ow, E, rr, _, h1, fun ow' H' a vs n r' s' z => ho d E1 h2 ow' H' a vs n r' s' z⟩
  · subst h2
    exact ⟨ow, E, rr, _, h1, hp⟩
theorem tI_then {t : Tg} {f : M (List PyData)} {k : List PyData → SM} {o : Out} (rr : R K ow E σ H) (h : thenS f k E = some o) (hp : OutP K W D ow H o) {Q : It → Hp → Prop}
    (ho : ∀ d E1, k d E1 = some o → ∀ ow' H' J, R K ow' E1 σ H' → Stp ow ow' H H' → WkD K ow' H' J t d → Q J H') : tI K W t f σ H Q := by
  rcases thenS_some h with ⟨d, E1, h1, h2⟩ | ⟨c, fs, E1, h1, h2⟩
  · exact ⟨ow, E, rr, _, h1, fun ow' H' J r' s' z => ho d E1 h2 ow' H' J r' s' z⟩
  · subst h2
    exact ⟨ow, E, rr, _, h1, hp⟩
/-! ### blocks -/
def nxS : SM := fun E => some (.nx E)
def seqS (g h : SM) : SM := fun E => match g E with
  | some (.nx E1) => h E1
  | o => o
variable {st : Stmt} {rest : List Stmt} {g h : SM}
theorem dss_nil : PSs X [] (tS X.K W nxS) := by
  refine PSs.imp pss_nil fun D σ H h => ?_
  obtain ⟨ow, E, rr, o, ho, k⟩ := h
  have e := Option.some.inj ho
  subst e
  exact k ow H σ rr (Stp.refl _ _)
theorem dss_one (h1 : PS X st (tS X.K W g)) : PSs X [st] (tS X.K W g) := pss_one h1
theorem dss_cons (h1 : PS X st (tS X.K W g)) (h2 : PSs X rest (tS X.K W h)) : PSs X (st :: rest) (tS X.K W (seqS g h)) := by
  refine PSs.imp (pss_cons h1 h2) fun D σ H hh => ?_
  obtain ⟨ow, E, rr, o, ho, k⟩ := hh
  unfold seqS at ho
  cases q : g E with
  | none =>
    rw [q] at ho
    cases ho
  | some o1 =>
    rw [q] at ho
    refine ⟨ow, E, rr, o1, q, ?_⟩
    cases o1 with
    | nx E1 => exact fun ow' H' σ' r s => ⟨ow', E1, r, o, ho, k.from_ s⟩
    | rt d E1 =>
      have e := Option.some.inj ho
      subst e
      exact k
    | bk E1 =>
      have e := Option.some.inj ho
      subst e
      exact k
    | ct E1 =>
      have e := Option.some.inj ho
      subst e
      exact k
    | ex c fs E1 =>
      have e := Option.some.inj ho
      subst e
      exact k
theorem ds_pass : PS X (.Pass pos) (tS X.K W nxS) := by
  refine PS.imp ps_pass fun D σ H h => ?_
  obtain ⟨ow, E, rr, o, ho, k⟩ := h
  have e := Option.some.inj ho
  subst e
  exact k ow H σ rr (Stp.refl _ _)
theorem ds_doc {x j} {pos' : Pos} : PS X (.Expr (.Constant (.str x) j pos) pos') (tS X.K W nxS) := by
  refine PS.imp ps_doc fun D σ H h => ?_
  obtain ⟨ow, E, rr, o, ho, k⟩ := h
  have e := Option.some.inj ho
  subst e
  exact k ow H σ rr (Stp.refl _ _)
def bkS : SM := fun E => some (.bk E)
def ctS : SM := fun E => some (.ct E)
theorem ds_break : PS X (.Break pos) (tS X.K W bkS) := by
  refine PS.imp ps_break fun D σ H h => ?_
  obtain ⟨ow, E, rr, o, ho, k⟩ := h
  have e := Option.some.inj ho
  subst e
  exact k ow H σ rr (Stp.refl _ _)
theorem ds_continue : PS X (.Continue pos) (tS X.K W ctS) := by
  refine PS.imp ps_continue fun D σ H h => ?_
  obtain ⟨ow, E, rr, o, ho, k⟩ := h
  have e := Option.some.inj ho
  subst e
  exact k ow H σ rr (Stp.refl _ _)
/-! ### small statements -/
variable {f : M PyData} {e : Expr} {fl : M (List PyData)}
def exprS (f : M PyData) : SM := thenS f fun _ => nxS
theorem ds_expr (he : PE X e (tE X.K W f)) (hs : swapsWith e none pos.line X.env = pure false := by rfl) : PS X (.Expr e pos) (tS X.K W (exprS f)) := by
  refine PS.imp (ps_expr he hs) fun D σ H h => ?_
  obtain ⟨ow, E, rr, o, ho, k⟩ := h
  refine tE_then rr ho k fun d E1 h1 ow1 H1 v R1 S1 _ => ?_
  have e := Option.some.inj h1
  subst e
  exact k ow1 H1 σ R1 S1
def retS (f : M PyData) : SM := thenS f fun d E => some (.rt d E)
theorem ds_ret (he : PE X e (tE X.K W f)) : PS X (.Return (some e) pos) (tS X.K W (retS f)) := by
  refine PS.imp (ps_ret he) fun D σ H h => ?_
  obtain ⟨ow, E, rr, o, ho, k⟩ := h
  refine tE_then rr ho k fun d E1 h1 ow1 H1 v R1 S1 q1 => ?_
  have e := Option.some.inj h1
  subst e
  exact k ow1 H1 σ v R1 S1 q1
def ret0S : SM := fun E => some (.rt .none E)
theorem ds_retN : PS X (.Return none pos) (tS X.K W ret0S) := by
  refine PS.imp ps_retN fun D σ H h => ?_
  obtain ⟨ow, E, rr, o, ho, k⟩ := h
  have e := Option.some.inj ho
  subst e
  exact k ow H σ .non rr (Stp.refl _ _) .non
def ifS (c : M Bool) (g h : SM) : SM := thenS c fun b => if b then g else h
theorem ds_if {c : Expr} {a b : List Stmt} {p : M Bool} (hc : PT X c (tT X.K W p)) (ha : PSs X a (tS X.K W g)) (hb : PSs X b (tS X.K W h)) : PS X (.If c a b pos) (tS X.K W (ifS p g h)) := by
  refine PS.imp (ps_if hc ha hb) fun D σ H hh => ?_
  obtain ⟨ow, E, rr, o, ho, k⟩ := hh
  refine tT_then rr ho k fun d E1 h1 ow1 H1 R1 S1 => ?_
  cases d with
  | true => exact ifT ⟨ow1, E1, R1, o, h1, k.from_ S1⟩
  | false => exact ⟨ow1, E1, R1, o, h1, k.from_ S1⟩
/-- t = e -/
def asgS (t : Tg) (f : M PyData) : SM := thenS f fun d E => (setT t d E).map .nx
theorem ds_asg {tg : Expr} {t : Tg} {own : List Nat} (he : PE X e (tE X.K W f)) (hg : PG X tg (tG X.K own t)) (hs : swapsWithSole [tg] e pos.line X.env = pure false := by rfl) (hw : swappedStores [tg] e X.env = pure none := by rfl)
    (h1 : (assignEach [tg] X.env).map (·.2) = [assign tg X.env] := by rfl) : PS X (.Assign [tg] e pos) (tS X.K W (asgS t f)) := by
  refine PS.imp (ps_asg he hg hs hw h1) fun D σ H h => ?_
  obtain ⟨ow, E, rr, o, ho, k⟩ := h
  refine tE_then rr ho k fun d E1 g1 ow1 H1 v R1 S1 q1 => ?_
  cases q : setT t d E1 with
  | none =>
    rw [q] at g1
    cases g1
  | some E2 =>
    rw [q] at g1
    have e := Option.some.inj g1
    subst e
    exact ⟨ow1, E1, R1, d, E2, q1.t q, q, fun σ' r' _ => k ow1 H1 σ' r' S1⟩
theorem ds_set {i : Nat} {x : Str} {pos' : Pos} (hN : X.N.Nodup) (hi : X.N[i]? = some x) (hx : Loc X.env.scope x) (he : PE X e (tE X.K W f)) (hs : swapsWith e (some (.Name x pos')) pos.line X.env = pure false := by rfl) (hf : X.fn x = true ∨ X.env.scope.names.lookup x = some .local := by first | exact .inl rfl | exact .inr rfl | assumption) :
    PS X (.Assign [.Name x pos'] e pos) (tS X.K W (asgS (.nm i) f)) := by
  refine PS.imp (ps_set hN hi hx he hs hf) fun D σ H h => ?_
  obtain ⟨ow, E, rr, o, ho, k⟩ := h
  refine tE_then rr ho k fun d E1 g1 ow1 H1 v R1 S1 q1 => ?_
  unfold setT at g1
  have e := Option.some.inj g1
  subst e
  exact k ow1 H1 _ (R1.set q1) S1
/-- x = a new list, the slot's own -/
def ownS (i : Nat) (f : M (List PyData)) : SM := thenS f fun ds E => some (.nx (E.set i (.own ds)))
def give (ow : Ow) (a : Addr) (n : Nat) : Ow := fun b => if b = a then some n else ow b
theorem give_at {ow : Ow} {a : Addr} {n : Nat} : give ow a n a = some n := if_pos rfl
theorem give_ne {ow : Ow} {a b : Addr} {n : Nat} (h : b ≠ a) : give ow a n b = ow b := if_neg h
theorem frz_give {ow : Ow} {H : Hp} {a : Addr} {n : Nat} {o : HO} (h : H a = none) : frz (give ow a n) (upd H a o) = frz ow H := by
  funext b
  by_cases e : b = a
  · subst e
    rw [frz_no (by rw [give_at]; simp)]
    by_cases q : ow b = none
    · rw [frz_at q, h]
    · rw [frz_no q]
  · by_cases q : ow b = none
    · rw [frz_at (by rw [give_ne e]; exact q), frz_at q, upd_ne e]
    · rw [frz_no (by rw [give_ne e]; exact q), frz_no q]
/-- a new object, owned -/
theorem R.gives (r : R K ow E σ H) {a : Addr} {n : Nat} {o : HO} (h : H a = none) : R K (give ow a n) E σ (upd H a o) := by
  have na : ow a = none := r.fresh h
  have hf : frz (give ow a n) (upd H a o) = frz ow H := frz_give h
  refine ⟨fun b e => ?_, r.ln, fun j s o h1 h2 => ?_⟩
  · by_cases q : b = a
    · subst q
      rw [upd_same]
      simp
    · rw [give_ne q] at e
      rw [upd_ne q]
      exact r.tr b e
  · have z := r.sl j s o h1 h2
    have ne : ∀ {c : Addr} {m : Nat}, ow c = some m → c ≠ a := fun {c m} hc e => by
      rw [e, na] at hc
      cases hc
    cases s with
    | un => trivial
    | dat d =>
      obtain ⟨v, e1, z⟩ := z
      exact ⟨v, e1, by rw [hf]; exact z⟩
    | own ds =>
      obtain ⟨c, vs, e1, e2, e3, z⟩ := z
      exact ⟨c, vs, e1, by rw [give_ne (ne e2)]; exact e2, by rw [upd_ne (ne e2)]; exact e3, by rw [hf]; exact z⟩
    | drw p st =>
      obtain ⟨e1, ⟨e2, e3, e4⟩, z0, z1, z2, z3⟩ := z
      exact ⟨e1, ⟨by rw [give_ne (ne e2)]; exact e2, by rw [give_ne (ne e3)]; exact e3, by rw [give_ne (ne e4)]; exact e4⟩, z0, by rw [upd_ne (ne e2)]; exact z1, by rw [upd_ne (ne e3)]; exact z2, by rw [upd_ne (ne e4)]; exact z3⟩
    | tab p q =>
      obtain ⟨e1, ps, e2, z⟩ := z
      exact ⟨by rw [give_ne (ne e1)]; exact e1, ps, by rw [upd_ne (ne e1)]; exact e2, by rw [hf]; exact z⟩
theorem Stp.gives {a : Addr} {n : Nat} {o : HO} (h : H a = none) : Stp ow (give ow a (n + 1)) H (upd H a o) :=
  ⟨fun b u hb e => by
    have nb : b ≠ a := ne_of_none hb h
    exact ⟨by rw [upd_ne nb]; exact hb, by rw [give_ne nb]; exact e⟩, fun b u hb e => by
    have nb : b ≠ a := ne_of_none hb h
    exact ⟨by rw [upd_ne nb]; exact hb, by rw [give_ne nb]; exact e⟩, fun b e => by
    by_cases nb : b = a
    · subst nb
      rw [give_at] at e
      cases e
    · rw [give_ne nb] at e
      exact e⟩
theorem R.setOwn (r : R K ow E σ H) {i : Nat} {a : Addr} {vs : List V} {ds : List PyData} (h : H a = none) (hd : DqAll K (frz ow H) vs ds) : R K (give ow a (i + 1)) (E.set i (.own ds)) (σ.set i (some (.ref a))) (upd H a (.lst vs)) := by
  have r2 := r.gives (n := i + 1) (o := .lst vs) h
  have hf : frz (give ow a (i + 1)) (upd H a (.lst vs)) = frz ow H := frz_give h
  refine ⟨r2.tr, by simp [r.ln], fun j s o h1 h2 => ?_⟩
  by_cases e : i = j
  · subst e
    by_cases hl : i < E.length
    · rw [List.getElem?_set_self hl] at h1
      rw [List.getElem?_set_self (by rw [← r.ln]; exact hl)] at h2
      cases h1
      cases h2
      exact ⟨a, vs, rfl, give_at, upd_same, by rw [hf]; exact hd⟩
    · rw [List.getElem?_eq_none (by simpa using Nat.le_of_not_lt hl)] at h1
      cases h1
  · rw [List.getElem?_set_ne e] at h1 h2
    exact r2.sl j s o h1 h2
theorem tAsg_own {i : Nat} (h : tS K W (ownS i fl) D σ H) : tAsg (tF K W fl) (gName i) D σ H := by
  obtain ⟨ow, E, rr, o, ho, k⟩ := h
  show tF K W fl σ H fun x H1 => gName i x σ H1 D.nx
  refine tF_then rr ho k fun d E1 g1 ow1 H1 a vs hn R1 S1 q1 => ?_
  have e := Option.some.inj g1
  subst e
  exact k _ _ _ (R1.setOwn hn q1) (S1.trans (Stp.gives hn))
theorem ds_own {i : Nat} {x : Str} {pos' : Pos} (hN : X.N.Nodup) (hi : X.N[i]? = some x) (hx : Loc X.env.scope x) (he : PE X e (tF X.K W fl)) (hs : swapsWith e (some (.Name x pos')) pos.line X.env = pure false := by rfl) (hf : X.fn x = true ∨ X.env.scope.names.lookup x = some .local := by first | exact .inl rfl | exact .inr rfl | assumption) :
    PS X (.Assign [.Name x pos'] e pos) (tS X.K W (ownS i fl)) := PS.imp (ps_set hN hi hx he hs hf) fun _ _ _ h => tAsg_own h
/-! ### for -/
def forS (t : Tg) (body : SM) : List PyData → SM
  | [], E => some (.nx E)
  | d :: ds, E => match setT t d E with
    | none => none
    | some E1 => match body E1 with
      | some (.nx E2) => forS t body ds E2
      | some (.ct E2) => forS t body ds E2
      | some (.bk E2) => some (.nx E2)
      | some (.rt r E2) => some (.rt r E2)
      | some (.ex c fs E2) => some (.ex c fs E2)
      | none => none
def loopS (t : Tg) (f : M (List PyData)) (body : SM) : SM := thenS f fun ds => forS t body ds
theorem ds_for {iter tg : Expr} {body : List Stmt} {t : Tg} {own : List Nat} (hp : PassesOwn (model X.prog X.w) X.A X.env X.xe) (hc : X.calm = true) (hi : PI X tg iter (tI X.K W t fl)) (hg : PG X tg (tG X.K own t)) (hb : PSs X body (tS X.K W g))
    (hs : ∀ x, foldedSetIterable iter X.env x = pure x := by intro _; rfl) : PS X (.For tg iter body [] pos) (tS X.K W (loopS t fl g)) := by
  refine PS.imp (ps_for hp hc hi hg hb hs) fun D σ H h => ?_
  obtain ⟨ow, E, rr, o, ho, k⟩ := h
  show tI X.K W t fl σ H _
  refine tI_then rr ho k fun ds E1 h1 ow1 H1 J R1 S1 wk => ?_
  obtain ⟨G, Y, w, g1, y1⟩ := wk.ex
  have k1 := k.from_ S1
  refine for_it w (fun i σ' H' => ∃ ow' E', R X.K ow' E' σ' H' ∧ Stp ow1 ow' H1 H' ∧ forS t g (ds.drop i) E' = some o) ⟨ow1, E1, R1, Stp.refl _ _, h1⟩ (fun i σ' H' _ ⟨ow', E', _, s', _⟩ => g1 ow' H' s'.same) ?_ ?_
  · rintro i x σ2 H2 H3 hi ⟨ow2, E2, r2, s2, f2⟩ yy
    obtain ⟨d, hd, sm, hq⟩ := y1 i ow2 H2 x H3 hi s2.same r2.tr yy
    have dr : ds.drop i = d :: ds.drop (i + 1) := by
      rw [List.drop_eq_getElem_cons hi]
      congr 1
      rw [List.getElem?_eq_getElem hi] at hd
      exact Option.some.inj hd
    rw [dr] at f2
    unfold forS at f2
    cases q : setT t d E2 with
    | none =>
      rw [q] at f2
      cases f2
    | some E3 =>
      rw [q] at f2
      have r3 := r2.grow sm
      have s3 := s2.trans (Stp.grow (ow := ow2) sm)
      refine ⟨ow2, E2, r3, d, E3, hq, q, fun σ4 r4 _ => ?_⟩
      cases q2 : g E3 with
      | none =>
        simp only [q2] at f2
        cases f2
      | some o1 =>
        simp only [q2] at f2
        refine ⟨ow2, E3, r4, o1, q2, ?_⟩
        cases o1 with
        | nx E4 => exact fun ow5 H5 σ5 r5 s5 => ⟨ow5, E4, r5, s3.trans s5, f2⟩
        | ct E4 => exact fun ow5 H5 σ5 r5 s5 => ⟨ow5, E4, r5, s3.trans s5, f2⟩
        | bk E4 =>
          have e := Option.some.inj f2
          subst e
          exact fun ow5 H5 σ5 r5 s5 => k1 ow5 H5 σ5 r5 (s3.trans s5)
        | rt d4 E4 =>
          have e := Option.some.inj f2
          subst e
          exact fun ow5 H5 σ5 v5 r5 s5 q5 => k1 ow5 H5 σ5 v5 r5 (s3.trans s5) q5
        | ex c fs E4 =>
          have e := Option.some.inj f2
          subst e
          exact fun ow5 H5 cls dv s5 q5 => k1 ow5 H5 cls dv (s3.trans s5) q5
  · rintro σ2 H2 ⟨ow2, E2, r2, s2, f2⟩
    rw [List.drop_length] at f2
    have e := Option.some.inj f2
    subst e
    exact k1 ow2 H2 σ2 r2 s2
/-! ### while -/
def whlN (c : M Bool) (body : SM) : Nat → SM
  | 0, _ => none
  | n + 1, E => match c E with
    | none => none
    | some (.ex c fs E1) => some (.ex c fs E1)
    | some (.ok false E1) => some (.nx E1)
    | some (.ok true E1) => match body E1 with
      | some (.nx E2) => whlN c body n E2
      | some (.ct E2) => whlN c body n E2
      | some (.bk E2) => some (.nx E2)
      | some (.rt r E2) => some (.rt r E2)
      | some (.ex c fs E2) => some (.ex c fs E2)
      | none => none
open Classical in
noncomputable def whlS (c : M Bool) (body : SM) : SM := fun E => if h : ∃ n o, whlN c body n E = some o then some (Classical.choose (Classical.choose_spec h)) else none
theorem whlN_more {c : M Bool} {body : SM} : ∀ {n : Nat} {E : En} {o : Out}, whlN c body n E = some o → whlN c body (n + 1) E = some o
  | 0, E, o, h => by cases h
  | n + 1, E, o, h => by
    unfold whlN at h ⊢
    cases q : c E with
    | none =>
      rw [q] at h
      cases h
    | some r =>
      rw [q] at h
      cases r with
      | ex c fs E1 => exact h
      | ok b E1 =>
        cases b with
        | false => exact h
        | true =>
          simp only at h ⊢
          cases q2 : body E1 with
          | none =>
            rw [q2] at h
            cases h
          | some o1 =>
            rw [q2] at h
            cases o1 with
            | nx E2 => exact whlN_more h
            | ct E2 => exact whlN_more h
            | bk E2 => exact h
            | rt d E2 => exact h
            | ex c fs E2 => exact h
theorem whlN_le {c : M Bool} {body : SM} {n m : Nat} {E : En} {o : Out} (h : whlN c body n E = some o) (hm : n ≤ m) : whlN c body m E = some o := by
  induction m with
  | zero =>
    have : n = 0 := by omega
    subst this
    exact h
  | succ m ih =>
    by_cases e : n = m + 1
    · subst e
      exact h
    · exact whlN_more (ih (by omega))
theorem whlS_of {c : M Bool} {body : SM} {n : Nat} {E : En} {o : Out} (h : whlN c body n E = some o) : whlS c body E = some o := by
  unfold whlS
  have hx : ∃ n o, whlN c body n E = some o := ⟨n, o, h⟩
  rw [dif_pos hx]
  have h2 := Classical.choose_spec (Classical.choose_spec hx)
  have h3 := whlN_le h2 (Nat.le_max_left _ n)
  have h4 := whlN_le h (Nat.le_max_right (Classical.choose hx) _)
  rw [h3] at h4
  exact h4
theorem whlS_some {c : M Bool} {body : SM} {E : En} {o : Out} (h : whlS c body E = some o) : ∃ n, whlN c body n E = some o := by
  unfold whlS at h
  split at h
  · rename_i hx
    have e := Option.some.inj h
    exact ⟨_, e ▸ Classical.choose_spec (Classical.choose_spec hx)⟩
  · cases h
theorem ds_while {c : Expr} {body : List Stmt} {p : M Bool} (hp : PassesOwn (model X.prog X.w) X.A X.env X.xe) (hc : PT X c (tT X.K W p)) (hb : PSs X body (tS X.K W g)) : PS X (.While c body [] pos) (tS X.K W (whlS p g)) := by
  refine PS.imp (ps_while hp hc hb) fun D σ H h => ?_
  obtain ⟨ow, E, rr, o, ho, k⟩ := h
  obtain ⟨n, hn⟩ := whlS_some ho
  refine ⟨fun m σ' H' => ∃ ow' E', R X.K ow' E' σ' H' ∧ Stp ow ow' H H' ∧ whlN p g m E' = some o, ⟨n, ow, E, rr, Stp.refl _ _, hn⟩, ?_⟩
  rintro m σ1 H1 ⟨ow1, E1, r1, s1, f1⟩
  cases m with
  | zero => cases f1
  | succ m =>
    unfold whlN at f1
    have k1 := k.from_ s1
    cases q : p E1 with
    | none =>
      rw [q] at f1
      cases f1
    | some r =>
      rw [q] at f1
      refine ⟨ow1, E1, r1, r, q, ?_⟩
      cases r with
      | ex c fs E2 =>
        have e := Option.some.inj f1
        subst e
        exact k1
      | ok b E2 =>
        intro ow2 H2 r2 s2
        cases b with
        | false =>
          have e := Option.some.inj f1
          subst e
          exact k1 ow2 H2 σ1 r2 s2
        | true =>
          simp only at f1
          refine ifT ⟨fun σ' H' => ∃ ow' E', R X.K ow' E' σ' H' ∧ Stp ow ow' H H' ∧ whlN p g m E' = some o, fun σ' H' hw => ⟨m, Nat.lt_succ_self m, hw⟩, ?_⟩
          cases q2 : g E2 with
          | none =>
            rw [q2] at f1
            cases f1
          | some o1 =>
            rw [q2] at f1
            refine ⟨ow2, E2, r2, o1, q2, ?_⟩
            have s3 := s1.trans s2
            cases o1 with
            | nx E4 => exact fun ow5 H5 σ5 r5 s5 => ⟨ow5, E4, r5, s3.trans s5, f1⟩
            | ct E4 => exact fun ow5 H5 σ5 r5 s5 => ⟨ow5, E4, r5, s3.trans s5, f1⟩
            | bk E4 =>
              have e := Option.some.inj f1
              subst e
              exact fun ow5 H5 σ5 r5 s5 => k ow5 H5 σ5 r5 (s3.trans s5)
            | rt d4 E4 =>
              have e := Option.some.inj f1
              subst e
              exact fun ow5 H5 σ5 v5 r5 s5 q5 => k ow5 H5 σ5 v5 r5 (s3.trans s5) q5
            | ex c fs E4 =>
              have e := Option.some.inj f1
              subst e
              exact fun ow5 H5 cls dv s5 q5 => k ow5 H5 cls dv (s3.trans s5) q5
end
end Sa

set_option maxHeartbeats 4000000
/-! The data layer: comprehensions. -/
namespace Sa
open PySem PySem.Spec PyProof.Rows L2 He NdefX RZ
def wipeE (E : En) : List Nat → En
  | [] => E
  | v :: vs => (wipeE E vs).set v .un
theorem wipeE_len (E : En) : ∀ vs : List Nat, (wipeE E vs).length = E.length
  | [] => rfl
  | v :: vs => by unfold wipeE; rw [List.length_set, wipeE_len E vs]
theorem wipeE_get {E : En} {i : Nat} {s : Sk} : ∀ {vs : List Nat}, (wipeE E vs)[i]? = some s → s = .un ∨ (i ∉ vs ∧ E[i]? = some s)
  | [], h => .inr ⟨List.not_mem_nil, h⟩
  | v :: vs, h => by
    unfold wipeE at h
    by_cases e : v = i
    · subst e
      by_cases hl : v < (wipeE E vs).length
      · rw [List.getElem?_set_self hl] at h
        exact .inl (Option.some.inj h).symm
      · rw [List.getElem?_eq_none (by simpa using Nat.le_of_not_lt hl)] at h
        cases h
    · rw [List.getElem?_set_ne e] at h
      rcases wipeE_get h with z | ⟨z1, z2⟩
      · exact .inl z
      · exact .inr ⟨fun hm => (List.mem_cons.mp hm).elim (fun q => e q.symm) z1, z2⟩
theorem wipe_get {σ : L2.St} {i : Nat} : ∀ {vs : List Nat}, i ∉ vs → (wipe σ vs)[i]? = σ[i]?
  | [], _ => rfl
  | v :: vs, h => by
    unfold wipe
    rw [List.getElem?_set_ne (fun e => h (by rw [e]; exact List.mem_cons_self)), wipe_get fun m => h (List.mem_cons_of_mem _ m)]
section
variable {X : Cx} {K : PySem.W.Frag} {W : XK} {σ σ' : L2.St} {H : Hp} {ow : Ow} {E : En}
theorem R.unwipe (r : R K ow E σ' H) {vs : List Nat} (h : wipe σ' vs = wipe σ vs) : R K ow (wipeE E vs) σ H := by
  refine ⟨r.tr, ?_, fun i s o h1 h2 => ?_⟩
  · rw [wipeE_len, r.ln]
    have := congrArg List.length h
    rw [wipe_length, wipe_length] at this
    exact this
  · rcases wipeE_get h1 with e | ⟨e1, e2⟩
    · subst e
      trivial
    · have z : σ'[i]? = some o := by
        rw [← wipe_get (σ := σ') e1, h, wipe_get e1]
        exact h2
      exact r.sl i s o e2 z
theorem wipe_wipe (σ : L2.St) (vs : List Nat) : wipe (wipe σ vs) vs = wipe σ vs := by
  refine List.ext_getElem? fun i => ?_
  by_cases e : i ∈ vs
  · have key : ∀ (τ : L2.St) (ws : List Nat), i ∈ ws → (wipe τ ws)[i]? = if i < τ.length then some none else none := by
      intro τ ws
      induction ws with
      | nil => intro h; cases h
      | cons w ws ih =>
        intro h
        show ((wipe τ ws).set w none)[i]? = _
        by_cases q : w = i
        · subst q
          by_cases hl : w < τ.length
          · rw [if_pos hl, List.getElem?_set_self (by rw [wipe_length]; exact hl)]
          · rw [if_neg hl, List.getElem?_eq_none (by rw [List.length_set, wipe_length]; omega)]
        · rw [List.getElem?_set_ne q]
          rcases List.mem_cons.mp h with z | z
          · exact absurd z.symm q
          · exact ih z
    rw [key _ _ e, key _ _ e, wipe_length]
  · rw [wipe_get e]
theorem wipeE_wipeE (E : En) (vs : List Nat) : wipeE (wipeE E vs) vs = wipeE E vs := by
  refine List.ext_getElem? fun i => ?_
  by_cases e : i ∈ vs
  · have key : ∀ (τ : En) (ws : List Nat), i ∈ ws → (wipeE τ ws)[i]? = if i < τ.length then some .un else none := by
      intro τ ws
      induction ws with
      | nil => intro h; cases h
      | cons w ws ih =>
        intro h
        show ((wipeE τ ws).set w .un)[i]? = _
        by_cases q : w = i
        · subst q
          by_cases hl : w < τ.length
          · rw [if_pos hl, List.getElem?_set_self (by rw [wipeE_len]; exact hl)]
          · rw [if_neg hl, List.getElem?_eq_none (by rw [List.length_set, wipeE_len]; omega)]
        · rw [List.getElem?_set_ne q]
          rcases List.mem_cons.mp h with z | z
          · exact absurd z.symm q
          · exact ih z
    rw [key _ _ e, key _ _ e, wipeE_len]
  · have key : ∀ (τ : En) (ws : List Nat), i ∉ ws → (wipeE τ ws)[i]? = τ[i]? := by
      intro τ ws
      induction ws with
      | nil => intro _; rfl
      | cons w ws ih =>
        intro h
        show ((wipeE τ ws).set w .un)[i]? = _
        rw [List.getElem?_set_ne (fun e => h (by rw [e]; exact List.mem_cons_self)), ih fun m => h (List.mem_cons_of_mem _ m)]
    rw [key _ _ e]
theorem R.wiped (r : R K ow E σ H) (vs : List Nat) : R K ow (wipeE E vs) (wipe σ vs) H := r.unwipe (wipe_wipe σ vs).symm
/-- without the object at D -/
def less (ow : Ow) (D : Addr) : Ow := fun b => if b = D then none else ow b
theorem less_ne {ow : Ow} {D b : Addr} (h : b ≠ D) : less ow D b = ow b := if_neg h
theorem less_at {ow : Ow} {D : Addr} : less ow D D = none := if_pos rfl
theorem frz_less {D : Addr} (h : ow D ≠ none) : frz (less ow D) (del H D) = frz ow H := by
  funext b
  by_cases e : b = D
  · subst e
    rw [frz_at less_at, del_same, frz_no h]
  · by_cases q : ow b = none
    · rw [frz_at (by rw [less_ne e]; exact q), frz_at q, del_ne e]
    · rw [frz_no (by rw [less_ne e]; exact q), frz_no q]
theorem R.less (r : R K ow E σ H) {D : Addr} (h : ow D = some 0) : R K (less ow D) E σ (del H D) := by
  have hf : frz (Sa.less ow D) (del H D) = frz ow H := frz_less (by rw [h]; simp)
  refine ⟨fun b e => ?_, r.ln, fun j s o h1 h2 => ?_⟩
  · by_cases q : b = D
    · subst q
      exact absurd less_at e
    · rw [less_ne q] at e
      rw [del_ne q]
      exact r.tr b e
  · have z := r.sl j s o h1 h2
    have ne : ∀ {c : Addr}, ow c = some (j + 1) → c ≠ D := fun {c} hc e => by
      rw [e, h] at hc
      cases hc
    cases s with
    | un => trivial
    | dat d =>
      obtain ⟨v, e1, z⟩ := z
      exact ⟨v, e1, by rw [hf]; exact z⟩
    | own ds =>
      obtain ⟨c, vs, e1, e2, e3, z⟩ := z
      exact ⟨c, vs, e1, by rw [less_ne (ne e2)]; exact e2, by rw [del_ne (ne e2)]; exact e3, by rw [hf]; exact z⟩
    | drw p st =>
      obtain ⟨e1, ⟨e2, e3, e4⟩, z0, z1, z2, z3⟩ := z
      exact ⟨e1, ⟨by rw [less_ne (ne e2)]; exact e2, by rw [less_ne (ne e3)]; exact e3, by rw [less_ne (ne e4)]; exact e4⟩, z0, by rw [del_ne (ne e2)]; exact z1, by rw [del_ne (ne e3)]; exact z2, by rw [del_ne (ne e4)]; exact z3⟩
    | tab p q =>
      obtain ⟨e1, ps, e2, z⟩ := z
      exact ⟨by rw [less_ne (ne e1)]; exact e1, ps, by rw [del_ne (ne e1)]; exact e2, by rw [hf]; exact z⟩
theorem Stp.less {ow ow' : Ow} {H H' : Hp} {D : Addr} (s : Stp ow ow' H H') : Stp (less ow D) (less ow' D) (del H D) (del H' D) := by
  refine ⟨fun b o hb e => ?_, fun b o hb e => ?_, fun b e => ?_⟩
  · have nb : b ≠ D := fun z => by
      rw [z, del_same] at hb
      cases hb
    rw [del_ne nb] at hb ⊢
    rw [less_ne nb] at e ⊢
    exact s.fz b o hb e
  · have nb : b ≠ D := fun z => by
      rw [z, del_same] at hb
      cases hb
    rw [del_ne nb] at hb ⊢
    rw [less_ne nb] at e ⊢
    exact s.out b o hb e
  · have nb : b ≠ D := fun z => by
      rw [z, less_at] at e
      cases e
    rw [less_ne nb] at e ⊢
    exact s.in0 b e
theorem R.swap (r : R K ow E σ H) {D : Addr} {o : HO} (h : ow D = some 0) : R K ow E σ (upd H D o) := by
  have hf : frz ow (upd H D o) = frz ow H := frz_upd (by rw [h]; simp)
  refine ⟨fun b e => ?_, r.ln, fun j s o' h1 h2 => ?_⟩
  · by_cases q : b = D
    · subst q
      rw [upd_same]
      simp
    · rw [upd_ne q]
      exact r.tr b e
  · have z := r.sl j s o' h1 h2
    have ne : ∀ {c : Addr}, ow c = some (j + 1) → c ≠ D := fun {c} hc e => by
      rw [e, h] at hc
      cases hc
    cases s with
    | un => trivial
    | dat d =>
      obtain ⟨v, e1, z⟩ := z
      exact ⟨v, e1, by rw [hf]; exact z⟩
    | own ds =>
      obtain ⟨c, vs, e1, e2, e3, z⟩ := z
      exact ⟨c, vs, e1, e2, by rw [upd_ne (ne e2)]; exact e3, by rw [hf]; exact z⟩
    | drw p st =>
      obtain ⟨e1, ⟨e2, e3, e4⟩, z0, z1, z2, z3⟩ := z
      exact ⟨e1, ⟨e2, e3, e4⟩, z0, by rw [upd_ne (ne e2)]; exact z1, by rw [upd_ne (ne e3)]; exact z2, by rw [upd_ne (ne e4)]; exact z3⟩
    | tab p q =>
      obtain ⟨e1, ps, e2, z⟩ := z
      exact ⟨e1, ps, by rw [upd_ne (ne e1)]; exact e2, by rw [hf]; exact z⟩
theorem del_swap {H : Hp} {D : Addr} {o : HO} : del (upd H D o) D = del H D := del_upd
theorem upd_del {H : Hp} {D : Addr} {o : HO} (h : H D = some o) : upd (del H D) D o = H := by
  funext b
  by_cases e : b = D
  · subst e
    rw [upd_same, h]
  · rw [upd_ne e, del_ne e]
/-! ### the turns -/
def lcD (own : List Nat) (t : Tg) (c : M Bool) (f : M PyData) : List PyData → En → Option (List PyData × En)
  | [], E => some ([], E)
  | d :: ds, E => match setT t d (wipeE E own) with
    | none => none
    | some E1 => match c E1 with
      | some (.ok true E2) => (match f E2 with
        | some (.ok y E3) => (match lcD own t c f ds (wipeE E3 own) with
          | some (ys, E4) => some (y :: ys, E4)
          | none => none)
        | _ => none)
      | some (.ok false E2) => lcD own t c f ds (wipeE E2 own)
      | _ => none
def lcE (own : List Nat) (t : Tg) (fl : M (List PyData)) (c : M Bool) (f : M PyData) : M (List PyData) := bnd fl fun ds E => match lcD own t c f ds (wipeE E own) with
  | some (ys, E') => some (.ok ys E')
  | none => none
def yesT : M Bool := ret true
theorem dts_nil : PTs X [] (tT X.K W yesT) := ⟨fun pins s σ H Q I h => pts_nil.run pins s σ H Q I (by
    obtain ⟨ow, E, rr, z, hz, k⟩ := h
    have e := Option.some.inj hz
    subst e
    exact k ow H rr (Stp.refl _ _))⟩
theorem dts_one {c : Expr} {p : M Bool} (h : PT X c (tT X.K W p)) : PTs X [c] (tT X.K W p) := pts_one h
variable {fl : M (List PyData)} {p : M Bool} {f : M PyData} {t : Tg}
theorem tI_bnd {β : Type} {k : List PyData → M β} {r : Rz β} (rr : R K ow E σ H) (h : bnd fl k E = some r) {Q : It → Hp → Prop}
    (hx : ∀ c fs E1, r = .ex c fs E1 → ∀ ow' H' cls dv, Stp ow ow' H H' → XcAt K (frz ow' H') cls dv c fs → W cls dv H')
    (ho : ∀ d E1, k d E1 = some r → ∀ ow' H' J, R K ow' E1 σ H' → Stp ow ow' H H' → WkD K ow' H' J t d → Q J H') : tI K W t fl σ H Q := by
  rcases bnd_some h with ⟨d, E1, h1, h2⟩ | ⟨c, fs, E1, h1, h2⟩
  · exact ⟨ow, E, rr, _, h1, fun ow' H' J r' s' z => ho d E1 h2 ow' H' J r' s' z⟩
  · exact ⟨ow, E, rr, _, h1, fun ow' H' cls dv s' z => hx c fs E1 h2 ow' H' cls dv s' z⟩
theorem tF_lc {W' : XK} {own : List Nat} {Q : VK} (h : tF K W (lcE own t fl p f) σ H Q) : tLc (tI K W t fl) (tG K own t) (tT K W' p) (tE K W' f) own σ H Q := by
  obtain ⟨ow, E, rr, z, hz, k⟩ := h
  show tI K W t fl σ H _
  refine tI_bnd rr hz (fun c fs E1 e => by subst e; exact k) fun ds E1 h1 ow1 H1 J R1 S1 wk D nD => ?_
  cases hl : lcD own t p f ds (wipeE E1 own) with
  | none =>
    simp only [hl] at h1
    cases h1
  | some w =>
    obtain ⟨ys, E'⟩ := w
    simp only [hl] at h1
    have ez := Option.some.inj h1
    subst ez
    have few := wk.few
    obtain ⟨G, Y, wlk, g1, y1⟩ := wk.ex
    refine lc_it wlk (fun i H' => ∃ ow' E2 vs acc rest, R K ow' E2 (wipe σ own) H' ∧ ow' D = some 0 ∧ H' D = some (.lst vs) ∧ DqAll K (frz ow' H') vs acc ∧ acc.length ≤ i ∧ Stp ow1 (less ow' D) H1 (del H' D) ∧ wipeE E2 own = E2 ∧ lcD own t p f (ds.drop i) E2 = some (rest, E') ∧ acc ++ rest = ys)
      ⟨give ow1 D 0, wipeE E1 own, [], [], ys, (R1.wiped own).gives nD, give_at, upd_same, .nil, Nat.le_refl _, ?_, wipeE_wipeE _ _, hl, rfl⟩ ?_ ?_ ?_
    · have e1 : less (give ow1 D 0) D = ow1 := by
        funext b
        by_cases e : b = D
        · subst e
          rw [less_at, R1.fresh nD]
        · rw [less_ne e, give_ne e]
      have e2 : del (upd H1 D (.lst [])) D = H1 := by
        funext b
        by_cases e : b = D
        · subst e
          rw [del_same, nD]
        · rw [del_ne e, upd_ne e]
      rw [e1, e2]
      exact Stp.refl _ _
    · rintro i H' hi ⟨ow', E2, vs, acc, rest, r', oD, hD, hq, hle, s', ew, hc, hy⟩
      refine g1 ow' H' ?_
      have := s'.same
      rw [frz_less (by rw [oD]; simp)] at this
      exact this
    · rintro i x H2 H3 hi ⟨ow2, E2, vs, acc, rest, r2, oD, hD, hq, hle, s2, ew, hc, hy⟩ yy
      have fr : Same (frz ow1 H1) (frz ow2 H2) := by
        have := s2.same
        rw [frz_less (by rw [oD]; simp)] at this
        exact this
      obtain ⟨d, hd, sm, hqx⟩ := y1 i ow2 H2 x H3 hi fr r2.tr yy
      have dr : ds.drop i = d :: ds.drop (i + 1) := by
        rw [List.drop_eq_getElem_cons hi]
        congr 1
        rw [List.getElem?_eq_getElem hi] at hd
        exact Option.some.inj hd
      rw [dr] at hc
      unfold lcD at hc
      -- the turn begins: the item's slot is stored
      have r3 : R K ow2 (wipeE E2 own) (wipe σ own) H3 := by
        have := (r2.grow sm).wiped own
        rw [wipe_wipe] at this
        exact this
      have hD3 : H3 D = some (.lst vs) := sm _ _ hD
      have S3 : Stp ow2 ow2 H2 H3 := Stp.grow sm
      cases q : setT t d (wipeE E2 own) with
      | none =>
        simp only [q] at hc
        cases hc
      | some E3 =>
        simp only [q] at hc
        refine ⟨ow2, wipeE E2 own, r3, d, E3, hqx, q, fun σ4 r4 w4 => ⟨w4.trans (wipe_wipe σ own), ?_⟩⟩
        cases q2 : p E3 with
        | none =>
          simp only [q2] at hc
          cases hc
        | some z2 =>
          cases z2 with
          | ex c fs E4 =>
            simp only [q2] at hc
            cases hc
          | ok b E4 =>
            refine ⟨ow2, E3, r4, _, q2, fun ow5 H5 r5 s5 => ?_⟩
            have w4' : wipe σ4 own = wipe σ own := w4.trans (wipe_wipe σ own)
            have st5 : Stp ow2 ow5 H2 H5 := S3.trans s5
            obtain ⟨hD5, oD5⟩ := s5.out D _ hD3 oD
            cases b with
            | false =>
              simp only [q2] at hc
              refine ⟨ow5, wipeE E4 own, vs, acc, rest, ?_, oD5, hD5, st5.dqs hq, by omega, s2.trans st5.less, wipeE_wipeE _ _, hc, hy⟩
              exact r5.unwipe (w4'.trans (wipe_wipe σ own).symm)
            | true =>
              simp only [q2] at hc
              refine ifT ?_
              cases q3 : f E4 with
              | none =>
                simp only [q3] at hc
                cases hc
              | some z3 =>
                cases z3 with
                | ex c fs E5 =>
                  simp only [q3] at hc
                  cases hc
                | ok y E5 =>
                  simp only [q3] at hc
                  cases q4 : lcD own t p f (ds.drop (i + 1)) (wipeE E5 own) with
                  | none =>
                    simp only [q4] at hc
                    cases hc
                  | some z4 =>
                    obtain ⟨ys2, E6⟩ := z4
                    simp only [q4] at hc
                    have ec := Option.some.inj hc
                    cases ec
                    refine ⟨ow5, E4, r5, _, q3, fun ow6 H6 v6 r6 s6 q6 => ?_⟩
                    obtain ⟨hD6, oD6⟩ := s6.out D _ hD5 oD5
                    have st6 : Stp ow2 ow6 H2 H6 := st5.trans s6
                    have hq6 := st6.dqs hq
                    refine ⟨vs, hD6, by rw [hq.length]; omega, ow6, wipeE E5 own, vs ++ [v6], acc ++ [y], ys2, ?_, oD6, upd_same, ?_, ?_, ?_, wipeE_wipeE _ _, q4, ?_⟩
                    · exact (r6.unwipe (w4'.trans (wipe_wipe σ own).symm)).swap oD6
                    · rw [frz_upd (by rw [oD6]; simp)]
                      exact hq6.snoc q6
                    · rw [List.length_append]
                      show acc.length + 1 ≤ i + 1
                      omega
                    · rw [del_upd]
                      exact s2.trans st6.less
                    · rw [List.append_assoc]
                      exact hy
    · rintro H2 ⟨ow2, E2, vs, acc, rest, r2, oD, hD, hq, hle, s2, ew, hc, hy⟩
      rw [List.drop_length] at hc
      have ec := Option.some.inj hc
      cases ec
      rw [List.append_nil] at hy
      subst hy
      have hf := frz_less (H := H2) (ow := ow2) (D := D) (by rw [oD]; simp)
      have fin := k (less ow2 D) (del H2 D) D vs del_same ?_ (S1.trans s2) (by rw [hf]; exact hq)
      · rw [upd_del hD] at fin
        exact fin
      · have z := (r2.less oD).unwipe (wipe_wipe σ own)
        rw [ew] at z
        exact z
variable {elt tg iter : Expr} {ifs : List Expr} {scope : Scope} {own : List (Str × Nat)} {pos : Pos}
/-- [f for t in iter if c] -/
theorem df_lc {W' : XK} (hc : X.calm = true) (hN : X.N.Nodup) (hi : PI X tg iter (tI X.K W t fl)) (ok : BlkOk X.N X.env.scope scope own)
    (hg : ∀ (s : Shared) (H : Hp) (C : Addr) (cl : List (Str × Addr)) (fp : List Addr), PG (X.blk s H scope (compEnvC scope cl C X.env) fp) tg (tG X.K (own.map (·.2)) t)) (ht : ∀ (s : Shared) (H : Hp) (C : Addr) (cl : List (Str × Addr)) (fp : List Addr), PTs (X.blk s H scope (compEnvC scope cl C X.env) fp) ifs (tT X.K W' p))
    (he : ∀ (s : Shared) (H : Hp) (C : Addr) (cl : List (Str × Addr)) (fp : List Addr), PE (X.blk s H scope (compEnvC scope cl C X.env) fp) elt (tE X.K W' f)) (hs : ∀ x, foldedSetIterable iter X.env x = pure x := by intro _; rfl) :
    PE X (.ListComp elt [⟨tg, iter, ifs, 0⟩] scope pos) (tF X.K W (lcE (own.map (·.2)) t fl p f)) := PE.imp (pe_lc hc hN hi ok hg ht he hs) fun _ _ _ h => tF_lc h
/-- x = [f for t in iter if c] -/
theorem ds_lc {W' : XK} {i : Nat} {y : Str} {py spos : Pos} (hc : X.calm = true) (hN : X.N.Nodup) (hy : X.N[i]? = some y) (hyl : X.env.scope.names.lookup y = some .local)
    (hsw : swapsWith (.ListComp elt [⟨tg, iter, ifs, 0⟩] scope pos) (some (.Name y py)) spos.line X.env = pure true) (hi : PI X tg iter (tI X.K W t fl)) (ok : BlkOk X.N X.env.scope scope own)
    (hg : ∀ (s : Shared) (H : Hp) (C : Addr) (cl : List (Str × Addr)) (fp : List Addr), PG (X.blk s H scope (compEnvC scope cl C X.env) fp) tg (tG X.K (own.map (·.2)) t)) (ht : ∀ (s : Shared) (H : Hp) (C : Addr) (cl : List (Str × Addr)) (fp : List Addr), PTs (X.blk s H scope (compEnvC scope cl C X.env) fp) ifs (tT X.K W' p))
    (he : ∀ (s : Shared) (H : Hp) (C : Addr) (cl : List (Str × Addr)) (fp : List Addr), PE (X.blk s H scope (compEnvC scope cl C X.env) fp) elt (tE X.K W' f)) (hs : ∀ x, foldedSetIterable iter X.env x = pure x := by intro _; rfl) :
    PS X (.Assign [.Name y py] (.ListComp elt [⟨tg, iter, ifs, 0⟩] scope pos) spos) (tS X.K W (ownS i (lcE (own.map (·.2)) t fl p f))) :=
  PS.imp (ps_setLc hc hN hy hyl hsw hi ok hg ht he hs) fun D σ H h => by
    obtain ⟨ow, E, rr, o, ho, k⟩ := h
    show tLc _ _ _ _ _ σ H fun x H1 => gName i x σ H1 D.nx
    refine tF_lc (tF_then rr ho k fun d E1 g1 ow1 H1 a vs hn R1 S1 q1 => ?_)
    have e := Option.some.inj g1
    subst e
    exact k _ _ _ (R1.setOwn hn q1) (S1.trans (Stp.gives hn))
end
end Sa

set_option maxHeartbeats 4000000
/-! The data layer: defs and their calls. -/
namespace Sa
open PySem PySem.Spec PyProof.Rows L2 He NdefX RZ
inductive FR where
  | ok (d : PyData)
  | ex (c : Str) (fs : Option (List (Str × PyData)))
/-- a def that answers as the function m on data does -/
def spF (K : PySem.W.Frag) (m : List PyData → Option FR) : Sp := fun vs H Q Ex => ∃ (ow : Ow) (ds : List PyData) (r : FR), (∀ b, ow b ≠ none → H b ≠ none) ∧ DqAll K (frz ow H) vs ds ∧ m ds = some r ∧
  match r with
  | .ok d => ∀ v H', Same H H' → Dq K (frz ow H') v d → Q v H'
  | .ex c fs => ∀ cls dv H', Same H H' → XcAt K (frz ow H') cls dv c fs → Ex cls dv H'
/-- .. that draws: its first argument is the source -/
def spW (K : PySem.W.Frag) (m : DrA → DrS → List PyData → Option (PyData × DrS)) : Sp := fun vs H Q _ => ∃ (ow : Ow) (p : DrA) (s s' : DrS) (ws : List V) (ds : List PyData) (d : PyData), vs = .ref p.d :: ws ∧ (∀ b, ow b ≠ none → H b ≠ none) ∧ DrAt H p s ∧
  (ow p.d ≠ none ∧ ow p.aw ≠ none ∧ ow p.ac ≠ none) ∧ DqAll K (frz ow H) ws ds ∧ m p s ds = some (d, s') ∧
  ∀ v H', (∀ b o, H b = some o → b ≠ p.d → b ≠ p.aw → b ≠ p.ac → H' b = some o) → DrAt H' p s' → Dq K (frz ow H') v d → Q v H'
/-- the slots at a def's beginning -/
def enOf (n : Nat) (ss : En) : En := ss ++ List.replicate (n - ss.length) .un
def fnD (g : SM) (n np : Nat) : List PyData → Option FR := fun ds => if ds.length = np then (match g (enOf n (ds.map .dat)) with
  | some (.nx _) => some (.ok .none)
  | some (.rt d _) => some (.ok d)
  | some (.ex c fs _) => some (.ex c fs)
  | _ => none) else none
instance : DecidableEq DrA := fun a b => match a, b with
  | ⟨a1, a2, a3⟩, ⟨b1, b2, b3⟩ => if h : a1 = b1 ∧ a2 = b2 ∧ a3 = b3 then isTrue (by obtain ⟨rfl, rfl, rfl⟩ := h; rfl) else isFalse (fun e => h (by cases e; exact ⟨rfl, rfl, rfl⟩))
/-- the source behind a def's end -/
def drwAt (p : DrA) (E : En) : Option DrS := match (E[0]? : Option Sk) with
  | some (Sk.drw q s) => if q = p then some s else none
  | _ => none
def fnW (g : SM) (n np : Nat) : DrA → DrS → List PyData → Option (PyData × DrS) := fun p s ds => if ds.length + 1 = np then (match g (enOf n (.drw p s :: ds.map .dat)) with
  | some (.nx E) => (drwAt p E).map fun s' => (.none, s')
  | some (.rt d E) => (drwAt p E).map fun s' => (d, s')
  | _ => none) else none
section
variable {K : PySem.W.Frag} {H H' : Hp} {ow ow' : Ow}
/-- a caller's owned addresses, seen from the callee -/
def out0 (ow : Ow) : Ow := fun b => (ow b).map fun _ => 0
theorem out0_none {ow : Ow} {b : Addr} : out0 ow b = none ↔ ow b = none := by
  unfold out0
  cases ow b <;> simp
theorem frz_out0 (ow : Ow) (H : Hp) : frz (out0 ow) H = frz ow H := by
  funext b
  by_cases q : ow b = none
  · rw [frz_at q, frz_at (out0_none.mpr q)]
  · rw [frz_no q, frz_no (fun z => q (out0_none.mp z))]
theorem out0_some {ow : Ow} {b : Addr} (h : ow b ≠ none) : out0 ow b = some 0 := by
  unfold out0
  cases q : ow b with
  | none => exact absurd q h
  | some n => rfl
theorem ends_same (s : Stp (out0 ow) ow' H H') : Same H H' := fun b o h => by
  by_cases q : ow b = none
  · exact (s.fz b o h (out0_none.mpr q)).1
  · exact (s.out b o h (out0_some q)).1
theorem ends_frz (tr : ∀ b, ow b ≠ none → H b ≠ none) (s : Stp (out0 ow) ow' H H') : Same (frz ow' H') (frz ow H') := fun b o h => by
  obtain ⟨h1, h2⟩ := frz_some h
  have q : ow b = none := by
    cases z : ow b with
    | none => rfl
    | some n =>
      have nb : ow b ≠ none := by rw [z]; simp
      cases y : H b with
      | none => exact absurd y (tr b nb)
      | some u =>
        have := (s.out b u y (out0_some nb)).2
        rw [h1] at this
        cases this
  rw [frz_at q]
  exact h2
theorem XcAt.same {F F' : Hp} {cls : Value} {dv : Option Addr} {c : Str} {fs : Option (List (Str × PyData))} (s : Same F F') (h : XcAt K F cls dv c fs) : XcAt K F' cls dv c fs := by
  cases fs with
  | none => exact h
  | some fs =>
    obtain ⟨dx, vs, h1, h2, h3, h4, h5⟩ := h
    exact ⟨dx, vs, h1, h2, s _ _ h3, h4, Dq.sameAll s _ _ h5⟩
theorem enOf_get {n : Nat} {ss : En} {i : Nat} {s : Sk} (h : (enOf n ss)[i]? = some s) : ss[i]? = some s ∨ s = .un := by
  unfold enOf at h
  by_cases q : i < ss.length
  · rw [List.getElem?_append_left q] at h
    exact .inl h
  · rw [List.getElem?_append_right (Nat.le_of_not_lt q)] at h
    have := List.mem_of_getElem? h
    rw [List.mem_replicate] at this
    exact .inr this.2
theorem start_get {N : List Str} {vs : List V} {i : Nat} {v : V} (h : vs[i]? = some v) : (L2.start N vs)[i]? = some (some v) := by
  unfold L2.start
  obtain ⟨hl, _⟩ := List.getElem?_eq_some_iff.mp h
  rw [List.getElem?_append_left (by rw [List.length_map]; exact hl), List.getElem?_map, h]
  rfl
theorem R.starts {N : List Str} {vs : List V} {ds : List PyData} (tr : ∀ b, ow b ≠ none → H b ≠ none) (h : DqAll K (frz ow H) vs ds) : R K (out0 ow) (enOf N.length (ds.map .dat)) (L2.start N vs) H := by
  refine ⟨fun b e => tr b fun z => e (out0_none.mpr z), ?_, fun i s o h1 h2 => ?_⟩
  · unfold enOf L2.start
    rw [List.length_append, List.length_append, List.length_map, List.length_map, List.length_replicate, List.length_replicate, h.length]
  · rcases enOf_get h1 with z | z
    · rw [List.getElem?_map] at z
      cases q : ds[i]? with
      | none =>
        rw [q] at z
        cases z
      | some d =>
        rw [q] at z
        cases z
        obtain ⟨v, hv, hq⟩ := h.get i q
        rw [start_get hv] at h2
        cases h2
        exact ⟨v, rfl, by rw [frz_out0]; exact hq⟩
    · subst z
      trivial
end
section
variable {P : Program} {w : World} {K : PySem.W.Frag} {mg : Str → Option Value} {base : Heap} {sx : Sx} {x : Str} {st : Stmt} {N ps : List Str} {k : Nat} {g : SM}
theorem spF_len {m : List PyData → Option FR} {np : Nat} (hm : ∀ ds r, m ds = some r → ds.length = np) {vs : List V} {H : Hp} {Q : VK} {E : XK} (h : spF K m vs H Q E) : vs.length = np := by
  obtain ⟨ow, ds, r, _, h1, h2, _⟩ := h
  rw [h1.length]
  exact hm ds r h2
theorem fnD_len {n np : Nat} {ds : List PyData} {r : FR} (h : fnD g n np ds = some r) : ds.length = np := by
  unfold fnD at h
  by_cases e : ds.length = np
  · exact e
  · rw [if_neg e] at h
    cases h
theorem fnD_of {n np : Nat} {ds : List PyData} {r : FR} (h : fnD g n np ds = some r) : ∃ o, g (enOf n (ds.map .dat)) = some o ∧ ((∃ E, o = .nx E ∧ r = .ok .none) ∨ (∃ d E, o = .rt d E ∧ r = .ok d) ∨ ∃ c fs E, o = .ex c fs E ∧ r = .ex c fs) := by
  have hl := fnD_len h
  unfold fnD at h
  rw [if_pos hl] at h
  cases q : g (enOf n (ds.map .dat)) with
  | none =>
    simp only [q] at h
    cases h
  | some o =>
    simp only [q] at h
    refine ⟨o, rfl, ?_⟩
    cases o with
    | nx E => exact .inl ⟨E, rfl, (Option.some.inj h).symm⟩
    | rt d E => exact .inr (.inl ⟨d, E, rfl, (Option.some.inj h).symm⟩)
    | ex c fs E => exact .inr (.inr ⟨c, fs, E, rfl, (Option.some.inj h).symm⟩)
    | bk E => cases h
    | ct E => cases h
/-- a def by its reading on data -/
theorem Tx.calD (T : Tx sx K mg) (i : Nat) (hd : sx.defs[i]? = some (mkD x st)) (hx : x ∈ sx.glos) (S : FnScope N ps (defScope st))
    (hbind : ∀ (kV doc pm : Value) (an : Option Addr) (cdv ct : Value) (us : List Value), us.length = ps.length → bindArgs (PySem.W.fnOf x x (defArgs st) (defBody st) (defScope st) .none kV doc pm an cdv ct) ⟨us, []⟩ = pure (ps.zip us))
    (hbody : ∀ (cdv : Value) (A : Around) (outer : List Env) (s : Shared) (H : Hp) (E : XK), Room k (A.deeper (envOfC x (defScope st) s.heap.objs.size (ga K x) cdv)) →
      PSs (cxOf (L2.CX P w) P w K mg base N x (defScope st) (ga K x) cdv A outer s H E) (defBody st) (tS K E g)) : Cal P w K mg base x (k + 1) ps (spF K (fnD g N.length ps.length)) := by
  refine T.calX i hd hx S (fun vs H Q E h => spF_len (fun ds r hr => fnD_len hr) h) hbind fun cdv A outer s H vs Q E hr h => ⟨_, hbody cdv A outer s H E hr, ?_⟩
  obtain ⟨ow, ds, r, tr, hq, hm, hk⟩ := h
  obtain ⟨o, ho, hh⟩ := fnD_of hm
  refine ⟨out0 ow, _, R.starts tr hq, o, ho, ?_⟩
  rcases hh with ⟨E1, rfl, rfl⟩ | ⟨d, E1, rfl, rfl⟩ | ⟨c, fs, E1, rfl, rfl⟩
  · exact fun ow' H' σ' r' s' => hk .non H' (ends_same s') .non
  · exact fun ow' H' σ' v r' s' q' => hk v H' (ends_same s') (Dq.same (ends_frz tr s') _ _ q')
  · exact fun ow' H' cls dv s' q' => hk cls dv H' (ends_same s') (XcAt.same (ends_frz tr s') q')
/-! a def that draws -/
def own1 (ow : Ow) (p : DrA) : Ow := fun b => if b = p.d ∨ b = p.aw ∨ b = p.ac then some 1 else out0 ow b
theorem own1_none {ow : Ow} {p : DrA} (h : ow p.d ≠ none ∧ ow p.aw ≠ none ∧ ow p.ac ≠ none) {b : Addr} : own1 ow p b = none ↔ ow b = none := by
  unfold own1
  by_cases e : b = p.d ∨ b = p.aw ∨ b = p.ac
  · rw [if_pos e]
    rcases e with e | e | e
    · subst e
      simp [h.1]
    · subst e
      simp [h.2.1]
    · subst e
      simp [h.2.2]
  · rw [if_neg e]
    exact out0_none
theorem frz_own1 {ow : Ow} {p : DrA} {H : Hp} (h : ow p.d ≠ none ∧ ow p.aw ≠ none ∧ ow p.ac ≠ none) : frz (own1 ow p) H = frz ow H := by
  funext b
  by_cases q : ow b = none
  · rw [frz_at q, frz_at ((own1_none h).mpr q)]
  · rw [frz_no q, frz_no (fun z => q ((own1_none h).mp z))]
theorem spW_len {m : DrA → DrS → List PyData → Option (PyData × DrS)} {np : Nat} (hm : ∀ p s ds r, m p s ds = some r → ds.length + 1 = np) {vs : List V} {H : Hp} {Q : VK} {E : XK} (h : spW K m vs H Q E) : vs.length = np := by
  obtain ⟨ow, p, s, s', ws, ds, d, rfl, _, _, _, h1, h2, _⟩ := h
  rw [List.length_cons, h1.length]
  exact hm _ _ _ _ h2
theorem fnW_len {n np : Nat} {p : DrA} {s : DrS} {ds : List PyData} {r : PyData × DrS} (h : fnW g n np p s ds = some r) : ds.length + 1 = np := by
  unfold fnW at h
  by_cases e : ds.length + 1 = np
  · exact e
  · rw [if_neg e] at h
    cases h
theorem drwAt_some {p : DrA} {E : En} {s : DrS} (h : drwAt p E = some s) : E[0]? = some (.drw p s) := by
  unfold drwAt at h
  split at h
  · rename_i q s2 he
    obtain ⟨e1, e2⟩ := lim_of h
    subst e1 e2
    exact he
  · cases h
theorem fnW_of {n np : Nat} {p : DrA} {s s' : DrS} {ds : List PyData} {d : PyData} (h : fnW g n np p s ds = some (d, s')) : ∃ o, g (enOf n (.drw p s :: ds.map .dat)) = some o ∧ ((∃ E, o = .nx E ∧ d = .none ∧ drwAt p E = some s') ∨ ∃ E, o = .rt d E ∧ drwAt p E = some s') := by
  have hl := fnW_len h
  unfold fnW at h
  rw [if_pos hl] at h
  cases q : g (enOf n (.drw p s :: ds.map .dat)) with
  | none =>
    simp only [q] at h
    cases h
  | some o =>
    simp only [q] at h
    refine ⟨o, rfl, ?_⟩
    cases o with
    | nx E =>
      cases z : drwAt p E with
      | none =>
        simp only [z] at h
        cases h
      | some s2 =>
        simp only [z] at h
        cases h
        exact .inl ⟨E, rfl, rfl, z⟩
    | rt d2 E =>
      cases z : drwAt p E with
      | none =>
        simp only [z] at h
        cases h
      | some s2 =>
        simp only [z] at h
        cases h
        exact .inr ⟨E, rfl, z⟩
    | ex c fs E => cases h
    | bk E => cases h
    | ct E => cases h
theorem R.startsW {H : Hp} {ow : Ow} {vs : List V} {ds : List PyData} {p : DrA} {s : DrS} (tr : ∀ b, ow b ≠ none → H b ≠ none) (ho : ow p.d ≠ none ∧ ow p.aw ≠ none ∧ ow p.ac ≠ none) (hs : DrAt H p s) (h : DqAll K (frz ow H) vs ds) : R K (own1 ow p) (enOf N.length (.drw p s :: ds.map .dat)) (L2.start N (.ref p.d :: vs)) H := by
  refine ⟨fun b e => tr b fun z => e ((own1_none ho).mpr z), ?_, fun i s1 o h1 h2 => ?_⟩
  · unfold enOf L2.start
    rw [List.length_append, List.length_append, List.length_map, List.length_cons, List.length_cons, List.length_map, List.length_replicate, List.length_replicate, h.length]
  · rcases enOf_get h1 with z | z
    · cases i with
      | zero =>
        cases z
        rw [start_get (v := .ref p.d) rfl] at h2
        cases h2
        exact ⟨rfl, ⟨by unfold own1; rw [if_pos (.inl rfl)], by unfold own1; rw [if_pos (.inr (.inl rfl))], by unfold own1; rw [if_pos (.inr (.inr rfl))]⟩, hs⟩
      | succ i =>
        rw [List.getElem?_cons_succ, List.getElem?_map] at z
        cases q : ds[i]? with
        | none =>
          rw [q] at z
          cases z
        | some d =>
          rw [q] at z
          cases z
          obtain ⟨v, hv, hq⟩ := h.get i q
          rw [start_get (v := v) (by rw [List.getElem?_cons_succ]; exact hv)] at h2
          cases h2
          exact ⟨v, rfl, by rw [frz_own1 ho]; exact hq⟩
    · subst z
      trivial
theorem own1_ne {ow : Ow} {p : DrA} {b : Addr} (h1 : b ≠ p.d) (h2 : b ≠ p.aw) (h3 : b ≠ p.ac) : own1 ow p b = out0 ow b := if_neg fun z => z.elim h1 fun z => z.elim h2 h3
theorem endsW_keep {ow ow' : Ow} {H H' : Hp} {p : DrA} (s : Stp (own1 ow p) ow' H H') : ∀ b o, H b = some o → b ≠ p.d → b ≠ p.aw → b ≠ p.ac → H' b = some o := fun b o h h1 h2 h3 => by
  by_cases q : ow b = none
  · exact (s.fz b o h (by rw [own1_ne h1 h2 h3]; exact out0_none.mpr q)).1
  · exact (s.out b o h (by rw [own1_ne h1 h2 h3]; exact out0_some q)).1
theorem endsW_frz {ow ow' : Ow} {H H' : Hp} {p : DrA} (tr : ∀ b, ow b ≠ none → H b ≠ none) (s : Stp (own1 ow p) ow' H H') (hp : ow' p.d ≠ none ∧ ow' p.aw ≠ none ∧ ow' p.ac ≠ none) : Same (frz ow' H') (frz ow H') := fun b o h => by
  obtain ⟨h1, h2⟩ := frz_some h
  have q : ow b = none := by
    cases z : ow b with
    | none => rfl
    | some n =>
      have nb : ow b ≠ none := by rw [z]; simp
      have n1 : b ≠ p.d := fun e => hp.1 (by rw [← e]; exact h1)
      have n2 : b ≠ p.aw := fun e => hp.2.1 (by rw [← e]; exact h1)
      have n3 : b ≠ p.ac := fun e => hp.2.2 (by rw [← e]; exact h1)
      cases y : H b with
      | none => exact absurd y (tr b nb)
      | some u =>
        have := (s.out b u y (by rw [own1_ne n1 n2 n3]; exact out0_some nb)).2
        rw [h1] at this
        cases this
  rw [frz_at q]
  exact h2
theorem R.drw {H : Hp} {ow : Ow} {E : En} {σ : L2.St} (r : R K ow E σ H) {i : Nat} {p : DrA} {s : DrS} (h : E[i]? = some (.drw p s)) : σ[i]? = some (some (.ref p.d)) ∧ (ow p.d = some (i + 1) ∧ ow p.aw = some (i + 1) ∧ ow p.ac = some (i + 1)) ∧ DrAt H p s := by
  obtain ⟨hl, _⟩ := List.getElem?_eq_some_iff.mp h
  have hl2 : i < σ.length := by rw [← r.ln]; exact hl
  have ho : σ[i]? = some σ[i] := List.getElem?_eq_getElem hl2
  obtain ⟨e1, e2, e3⟩ := r.sl i _ _ h ho
  exact ⟨by rw [ho, e1], e2, e3⟩
theorem Tx.calW (T : Tx sx K mg) (i : Nat) (hd : sx.defs[i]? = some (mkD x st)) (hx : x ∈ sx.glos) (S : FnScope N ps (defScope st))
    (hbind : ∀ (kV doc pm : Value) (an : Option Addr) (cdv ct : Value) (us : List Value), us.length = ps.length → bindArgs (PySem.W.fnOf x x (defArgs st) (defBody st) (defScope st) .none kV doc pm an cdv ct) ⟨us, []⟩ = pure (ps.zip us))
    (hbody : ∀ (cdv : Value) (A : Around) (outer : List Env) (s : Shared) (H : Hp) (E : XK), Room k (A.deeper (envOfC x (defScope st) s.heap.objs.size (ga K x) cdv)) →
      PSs (cxOf (L2.CX P w) P w K mg base N x (defScope st) (ga K x) cdv A outer s H E) (defBody st) (tS K E g)) : Cal P w K mg base x (k + 1) ps (spW K (fnW g N.length ps.length)) := by
  refine T.calX i hd hx S (fun vs H Q E h => spW_len (fun p s ds r hr => fnW_len hr) h) hbind fun cdv A outer s H vs Q E hr h => ⟨_, hbody cdv A outer s H E hr, ?_⟩
  obtain ⟨ow, p, sd, s', ws, ds, d, rfl, tr, hs, ho, hq, hm, hk⟩ := h
  obtain ⟨o, hg, hh⟩ := fnW_of hm
  refine ⟨own1 ow p, _, R.startsW tr ho hs hq, o, hg, ?_⟩
  have fin : ∀ (E1 : En) (ow' : Ow) (H' : Hp) (σ' : L2.St) (v : V), drwAt p E1 = some s' → R K ow' E1 σ' H' → Stp (own1 ow p) ow' H H' → Dq K (frz ow' H') v d → Q v H' := fun E1 ow' H' σ' v hdr r' st' q' => by
    obtain ⟨_, ⟨o1, o2, o3⟩, z⟩ := r'.drw (drwAt_some hdr)
    exact hk v H' (endsW_keep st') z (Dq.same (endsW_frz tr st' ⟨by rw [o1]; simp, by rw [o2]; simp, by rw [o3]; simp⟩) _ _ q')
  rcases hh with ⟨E1, rfl, rfl, hdr⟩ | ⟨E1, rfl, hdr⟩
  · exact fun ow' H' σ' r' st' => fin E1 ow' H' σ' .non hdr r' st' .non
  · exact fun ow' H' σ' v r' st' q' => fin E1 ow' H' σ' v hdr r' st' q'
end
/-! ### calls -/
def callE (m : List PyData → Option FR) (f : M (List PyData)) : M PyData := bnd f fun ds => match m ds with
  | some (.ok d) => ret d
  | _ => die
def callX (m : List PyData → Option FR) (f : M (List PyData)) : M PyData := bnd f fun ds => match m ds with
  | some (.ok d) => ret d
  | some (.ex c fs) => fun E => some (.ex c fs E)
  | none => die
section
variable {X : Cx} {W : XK} {x : Str} {j k : Nat} {ps : List Str} {m : List PyData → Option FR} {p pos : Pos} {e : Expr} {es : List Expr} {fa : M (List PyData)} {σ : L2.St} {H : Hp} {Q : VK}
theorem tE_call {K : PySem.W.Frag} {Ex : XK} (h : tE K W (callE m fa) σ H Q) : tCall (spF K m) [] Ex (tA K W fa) σ H Q := by
  obtain ⟨ow, E, rr, z, hz, k⟩ := h
  show tA K W fa σ H fun vs H1 => spF K m (vs ++ []) H1 Q Ex
  refine tA_bnd rr hz (fun c fs E1 e => by subst e; exact k) fun ds E1 h1 ow1 H1 vs R1 S1 q1 => ?_
  cases hm : m ds with
  | none =>
    simp only [hm] at h1
    cases h1
  | some r =>
    cases r with
    | ex c fs =>
      simp only [hm] at h1
      cases h1
    | ok d =>
      simp only [hm] at h1
      have e := Option.some.inj h1
      subst e
      rw [List.append_nil]
      exact ⟨ow1, ds, .ok d, R1.tr, q1, hm, fun v H' s q => k ow1 H' v (R1.grow s) (S1.trans (Stp.grow s)) q⟩
theorem tE_callX {K : PySem.W.Frag} (h : tE K W (callX m fa) σ H Q) : tCall (spF K m) [] W (tA K W fa) σ H Q := by
  obtain ⟨ow, E, rr, z, hz, k⟩ := h
  show tA K W fa σ H fun vs H1 => spF K m (vs ++ []) H1 Q W
  refine tA_bnd rr hz (fun c fs E1 e => by subst e; exact k) fun ds E1 h1 ow1 H1 vs R1 S1 q1 => ?_
  rw [List.append_nil]
  cases hm : m ds with
  | none =>
    simp only [hm] at h1
    cases h1
  | some r =>
    refine ⟨ow1, ds, r, R1.tr, q1, hm, ?_⟩
    cases r with
    | ex c fs =>
      simp only [hm] at h1
      have e := Option.some.inj h1
      subst e
      exact fun cls dv H' s q => k ow1 H' cls dv (S1.trans (Stp.grow s)) q
    | ok d =>
      simp only [hm] at h1
      have e := Option.some.inj h1
      subst e
      exact fun v H' s q => k ow1 H' v (R1.grow s) (S1.trans (Stp.grow s)) q
/-- a call of a def that does not raise here -/
theorem de_call (C : Cal X.prog X.w X.K X.mg X.base x k ps (spF X.K m)) (hr : Room j X.A) (ha : PA X (e :: es) (tA X.K W fa)) (hk : k ≤ j := by decide) (hg : Gl X x := by rfl)
    (hdb : (x == ("__debug__" : Str)) = false := by decide) (he : starEach (e :: es) X.env = (false, eval e X.env) :: starEach es X.env := by rfl) (hpl : (backTo pos (starEach es X.env)).any (·.1) = false := by rfl) :
    PE X (.Call (.Name x p) (e :: es) [] pos) (tE X.K W (callE m fa)) := PE.imp (pe_cal C hr ha hk hg hdb he hpl) fun _ _ _ h => tE_call h
theorem de_call0 (C : Cal X.prog X.w X.K X.mg X.base x k ps (spF X.K m)) (hr : Room j X.A) (hk : k ≤ j := by decide) (hg : Gl X x := by rfl) (hdb : (x == ("__debug__" : Str)) = false := by decide) :
    PE X (.Call (.Name x p) [] [] pos) (tE X.K W (callE m nilA)) := PE.imp (pe_cal0 C hr hk hg hdb) fun σ H Q h => by
  obtain ⟨ow, E, rr, z, hz, k⟩ := tE_call (Ex := E0) h
  obtain ⟨ow, E, rr, z, hz, k⟩ := h
  rcases bnd_some hz with ⟨ds, E1, h1, h2⟩ | ⟨c, fs, E1, h1, h2⟩
  · have e1 := Option.some.inj h1
    cases e1
    cases hm : m [] with
    | none =>
      simp only [hm] at h2
      cases h2
    | some r =>
      cases r with
      | ex c fs =>
        simp only [hm] at h2
        cases h2
      | ok d =>
        simp only [hm] at h2
        have e := Option.some.inj h2
        subst e
        exact ⟨ow, [], .ok d, rr.tr, .nil, hm, fun v H' s q => k ow H' v (rr.grow s) (Stp.grow s) q⟩
  · cases h1
/-- .. that may raise, the error passing on -/
theorem de_callX (C : Cal X.prog X.w X.K X.mg X.base x k ps (spF X.K m)) (hr : Room j X.A) (ha : PA X (e :: es) (tA X.K W fa)) (hp : Passes (L2.CX X.prog X.w) X W) (hk : k ≤ j := by decide) (hg : Gl X x := by rfl)
    (hdb : (x == ("__debug__" : Str)) = false := by decide) (he : starEach (e :: es) X.env = (false, eval e X.env) :: starEach es X.env := by rfl) (hpl : (backTo pos (starEach es X.env)).any (·.1) = false := by rfl) :
    PE X (.Call (.Name x p) (e :: es) [] pos) (tE X.K W (callX m fa)) := by
  obtain ⟨fd, F, b, _⟩ := C.ok
  exact PE.imp (pe_call F (hr.mono hk) hg C.at_ C.kp b .nil hp ha hdb he hpl) fun _ _ _ h => tE_callX h
/-- a call of a def that draws, the source in slot i -/
def callW (m : DrA → DrS → List PyData → Option (PyData × DrS)) (i : Nat) (f : M (List PyData)) : M PyData := fun E => match E[i]? with
  | some (.drw _ _) => bnd f (fun ds E1 => match E1[i]? with
    | some (.drw p s) => (match m p s ds with
      | some (d, s') => some (.ok d (E1.set i (.drw p s')))
      | none => none)
    | _ => none) E
  | _ => none
theorem R.redraw {K : PySem.W.Frag} {ow : Ow} {E : En} {H H' : Hp} (r : R K ow E σ H) {i : Nat} {p : DrA} {s s' : DrS} (h : E[i]? = some (.drw p s)) (hk : ∀ b o, H b = some o → b ≠ p.d → b ≠ p.aw → b ≠ p.ac → H' b = some o) (hs : DrAt H' p s') : R K ow (E.set i (.drw p s')) σ H' ∧ Stp ow ow H H' := by
  obtain ⟨h1, ⟨o1, o2, o3⟩, h3⟩ := r.drw h
  have ne : ∀ {b : Addr} {n : Option Nat}, ow b = n → n ≠ some (i + 1) → b ≠ p.d ∧ b ≠ p.aw ∧ b ≠ p.ac := fun {b n} e hn => by
    refine ⟨fun z => hn ?_, fun z => hn ?_, fun z => hn ?_⟩
    · rw [← e, z, o1]
    · rw [← e, z, o2]
    · rw [← e, z, o3]
  have kp : ∀ b o, H b = some o → ow b ≠ some (i + 1) → H' b = some o := fun b o hb hn => by
    obtain ⟨n1, n2, n3⟩ := ne (b := b) rfl hn
    exact hk b o hb n1 n2 n3
  have st : Stp ow ow H H' := ⟨fun b o hb e => ⟨kp b o hb (by rw [e]; simp), e⟩, fun b o hb e => ⟨kp b o hb (by rw [e]; simp), e⟩, fun _ e => e⟩
  refine ⟨⟨fun b e => ?_, by simp [r.ln], fun j s1 o h1' h2' => ?_⟩, st⟩
  · by_cases q : ow b = some (i + 1)
    · by_cases e1 : b = p.d
      · subst e1
        rw [hs.2.1]
        simp
      · by_cases e2 : b = p.aw
        · subst e2
          rw [hs.2.2.1]
          simp
        · by_cases e3 : b = p.ac
          · subst e3
            rw [hs.2.2.2]
            simp
          · cases z : H b with
            | none => exact absurd z (r.tr b e)
            | some o =>
              rw [hk b o z e1 e2 e3]
              simp
    · cases z : H b with
      | none => exact absurd z (r.tr b e)
      | some o =>
        rw [kp b o z q]
        simp
  · by_cases e : i = j
    · subst e
      by_cases hl : i < E.length
      · rw [List.getElem?_set_self hl] at h1'
        cases h1'
        rw [h1] at h2'
        cases h2'
        exact ⟨rfl, ⟨o1, o2, o3⟩, hs⟩
      · rw [List.getElem?_eq_none (by simpa using Nat.le_of_not_lt hl)] at h1'
        cases h1'
    · rw [List.getElem?_set_ne e] at h1'
      have z := r.sl j s1 o h1' h2'
      have kj : ∀ b o, H b = some o → ow b = some (j + 1) → H' b = some o := fun b o hb hn => kp b o hb (by rw [hn]; simpa using fun z => e z.symm)
      cases s1 with
      | un => trivial
      | dat d =>
        obtain ⟨v, e1, z⟩ := z
        exact ⟨v, e1, st.dq z⟩
      | own ds =>
        obtain ⟨c, vs, e1, e2, e3, z⟩ := z
        exact ⟨c, vs, e1, e2, kj _ _ e3 e2, st.dqs z⟩
      | drw p2 st2 =>
        obtain ⟨e1, ⟨e2, e3, e4⟩, z0, z1, z2, z3⟩ := z
        exact ⟨e1, ⟨e2, e3, e4⟩, z0, kj _ _ z1 e2, kj _ _ z2 e3, kj _ _ z3 e4⟩
      | tab p2 q2 =>
        obtain ⟨e1, ps, e2, z⟩ := z
        exact ⟨e1, ps, kj _ _ e2 e1, z.same st.same⟩
variable {mw : DrA → DrS → List PyData → Option (PyData × DrS)} {i : Nat} {y : Str} {py : Pos}
theorem de_callW (C : Cal X.prog X.w X.K X.mg X.base x k ps (spW X.K mw)) (hr : Room j X.A) (hv : PE X (.Name y py) (tVar i)) (ha : PA X es (tA X.K W fa)) (hk : k ≤ j := by decide) (hg : Gl X x := by rfl)
    (hdb : (x == ("__debug__" : Str)) = false := by decide) (he : starEach (.Name y py :: es) X.env = (false, eval (.Name y py) X.env) :: starEach es X.env := by rfl) (hpl : (backTo pos (starEach es X.env)).any (·.1) = false := by rfl) :
    PE X (.Call (.Name x p) (.Name y py :: es) [] pos) (tE X.K W (callW mw i fa)) := PE.imp (pe_cal C hr (pa_cons hv ha he) hk hg hdb he hpl) fun σ H Q h => by
  obtain ⟨ow, E, rr, z, hz, k⟩ := h
  unfold callW at hz
  cases q : E[i]? with
  | none =>
    simp only [q] at hz
    cases hz
  | some s0 =>
    cases s0 with
    | drw p0 t0 =>
      simp only [q] at hz
      obtain ⟨h0, _, _⟩ := rr.drw q
      show tCons (tVar i) (tA X.K W fa) σ H fun vs H1 => spW X.K mw (vs ++ []) H1 Q E0
      refine ⟨.ref p0.d, h0, ?_⟩
      refine tA_bnd rr hz (fun c fs E1 e => by subst e; exact k) fun ds E1 h1 ow1 H1 vs R1 S1 q1 => ?_
      cases q2 : E1[i]? with
      | none =>
        simp only [q2] at h1
        cases h1
      | some s1 =>
        cases s1 with
        | drw p1 t1 =>
          simp only [q2] at h1
          obtain ⟨h0', ⟨o1, o2, o3⟩, hs⟩ := R1.drw q2
          rw [h0] at h0'
          have ed : p0.d = p1.d := V.ref.inj (Option.some.inj (Option.some.inj h0'))
          cases hm : mw p1 t1 ds with
          | none =>
            simp only [hm] at h1
            cases h1
          | some w =>
            obtain ⟨d, s'⟩ := w
            simp only [hm] at h1
            have e := Option.some.inj h1
            subst e
            rw [List.append_nil, ed]
            refine ⟨ow1, p1, t1, s', vs, ds, d, rfl, R1.tr, hs, ⟨by rw [o1]; simp, by rw [o2]; simp, by rw [o3]; simp⟩, q1, hm, fun v H' hk hs' q' => ?_⟩
            obtain ⟨R2, S2⟩ := R1.redraw q2 hk hs'
            exact k ow1 H' v R2 (S1.trans S2) q'
        | _ =>
          simp only [q2] at h1
          cases h1
    | _ =>
      simp only [q] at hz
      cases hz
end
end Sa

set_option maxHeartbeats 4000000
/-! The data layer: the numbers that the source of draws gives. -/
namespace Sa
open PySem PySem.Spec PyProof.Rows L2 He NdefX RZ
def mixP : List Int := [2147483647, 2147483629, 2147483587, 2147483579]
def mixT (t q : Int) (b c : Int) : Int := (b * 69621 + c + t).fmod q
def mixS (cells : List Int) (t : Int) (f q : Int) : Int := f * 2147483647 + ((cells.foldl (mixT t q) (48271 * t + q.fdiv 37)) ^ Int.toNat 5).fmod q
def mixF (cells : List Int) (t : Int) : Int := mixP.foldl (mixS cells t) 0
def DrOk (s : DrS) : Bool := s.cells.all (fun x => decide (0 ≤ x) && decide (x < 2147483629)) && (decide (0 ≤ s.turn) && decide (s.turn < 1000000000000))
theorem DrOk_of {s : DrS} (h : DrOk s = true) : (∀ x ∈ s.cells, 0 ≤ x ∧ x < 2147483629) ∧ 0 ≤ s.turn ∧ s.turn < 1000000000000 := by
  unfold DrOk at h
  rw [Bool.and_eq_true, Bool.and_eq_true, decide_eq_true_eq, decide_eq_true_eq] at h
  refine ⟨fun x hx => ?_, h.2.1, h.2.2⟩
  have := List.all_eq_true.mp h.1 x hx
  rw [Bool.and_eq_true, decide_eq_true_eq, decide_eq_true_eq] at this
  exact this
/-- the source, filled -/
def fillS (s : DrS) : DrS := if s.rest = 0 then (match s.wide with
  | x :: xs => { s with wide := xs, rest := x }
  | [] => { s with rest := mixF s.cells (s.turn + 1), turn := s.turn + 1 }) else s
def takeV (s : DrS) (m : Int) : Int := (fillS s).rest.fmod m
def takeS (s : DrS) (m : Int) : DrS := { fillS s with rest := (fillS s).rest.fdiv m }
def takeM : DrA → DrS → List PyData → Option (PyData × DrS)
  | _, s, [.int m] => if (0 < m ∧ m < 1073741824) ∧ DrOk s = true then some (.int (takeV s m), takeS s m) else none
  | _, _, _ => none
theorem takeM_some {p : DrA} {s s' : DrS} {ds : List PyData} {d : PyData} (h : takeM p s ds = some (d, s')) : ∃ m, ds = [.int m] ∧ (0 < m ∧ m < 1073741824) ∧ DrOk s = true ∧ d = .int (takeV s m) ∧ s' = takeS s m := by
  unfold takeM at h
  split at h
  · obtain ⟨⟨h1, h2⟩, h3⟩ := lim_of h
    cases h3
    exact ⟨_, rfl, h1, h2, rfl, rfl⟩
  · cases h
end Sa

set_option maxHeartbeats 4000000
/-! The data layer: several names at once; errors raised; places. -/
namespace Sa
open PySem PySem.Spec PyProof.Rows L2 He NdefX RZ
theorem u65 {A : Around} {k : Nat} (r : Room k A) : A.units + 65 < cLine := by
  have := r.un
  omega
section
variable {X : Cx} {K : PySem.W.Frag} {W : XK} {σ : L2.St} {H : Hp} {f g : M PyData} {a b e : Expr} {es : List Expr} {fa : M (List PyData)} {p pos : Pos} {Q : VK} {i : Nat}
/-! ### a = b, c = d -/
/-- an item of the right side: data, or a new list -/
inductive Rv where
  | e (f : M PyData)
  | l (f : M (List PyData))
def PRv (X : Cx) (W : XK) (e : Expr) : Rv → Prop
  | .e f => PE X e (tE X.K W f)
  | .l f => PE X e (tF X.K W f)
def runR : List Rv → M (List Sk)
  | [] => ret []
  | .e f :: rs => bnd f fun d => bnd (runR rs) fun ss => ret (.dat d :: ss)
  | .l f :: rs => bnd f fun ds => bnd (runR rs) fun ss => ret (.own ds :: ss)
def tRv (K : PySem.W.Frag) (W : XK) : Rv → TE
  | .e f => tE K W f
  | .l f => tF K W f
def tRvs (K : PySem.W.Frag) (W : XK) : List Rv → TA
  | [] => tNil
  | r :: rs => tCons (tRv K W r) (tRvs K W rs)
/-- what waits to be stored -/
inductive Pend (K : PySem.W.Frag) (ow : Ow) (H : Hp) : List V → List Sk → List Addr → Prop
  | nil : Pend K ow H [] [] []
  | dat {v : V} {d : PyData} {vs : List V} {ss : List Sk} {B : List Addr} : Dq K (frz ow H) v d → Pend K ow H vs ss B → Pend K ow H (v :: vs) (.dat d :: ss) B
  | own {a : Addr} {ws : List V} {ds : List PyData} {vs : List V} {ss : List Sk} {B : List Addr} : ow a = some 0 → H a = some (.lst ws) → DqAll K (frz ow H) ws ds → a ∉ B → Pend K ow H vs ss B → Pend K ow H (.ref a :: vs) (.own ds :: ss) (a :: B)
structure StpB (B : List Addr) (ow ow' : Ow) (H H' : Hp) : Prop where
  fz : ∀ b o, H b = some o → ow b = none → H' b = some o ∧ ow' b = none
  out : ∀ b o, H b = some o → ow b = some 0 → H' b = some o ∧ ow' b = some 0
  in0 : ∀ b, ow' b = some 0 → b ∈ B ∨ ow b = some 0
  new : ∀ b ∈ B, ow b ≠ some 0
theorem StpB.of {ow ow' : Ow} {H H' : Hp} (s : Stp ow ow' H H') : StpB [] ow ow' H H' := ⟨s.fz, s.out, fun b e => .inr (s.in0 b e), fun _ h => nomatch h⟩
theorem StpB.then {B C : List Addr} {ow ow1 ow2 : Ow} {H H1 H2 : Hp} (tr : ∀ b, ow b ≠ none → H b ≠ none) (s : StpB B ow ow1 H H1) (t : StpB C ow1 ow2 H1 H2) : StpB (C ++ B) ow ow2 H H2 := by
  refine ⟨fun b o h e => t.fz b o (s.fz b o h e).1 (s.fz b o h e).2, fun b o h e => t.out b o (s.out b o h e).1 (s.out b o h e).2, fun b e => ?_, fun b hb z => ?_⟩
  · rcases t.in0 b e with h | h
    · exact .inl (List.mem_append_left _ h)
    · rcases s.in0 b h with h | h
      · exact .inl (List.mem_append_right _ h)
      · exact .inr h
  · rcases List.mem_append.mp hb with h | h
    · cases q : H b with
      | none => exact tr b (by rw [z]; simp) q
      | some o => exact t.new b h (s.out b o q z).2
    · exact s.new b h z
theorem StpB.same {B : List Addr} {ow ow' : Ow} {H H' : Hp} (a : StpB B ow ow' H H') : Same (frz ow H) (frz ow' H') := fun b o h => by
  obtain ⟨e, h⟩ := frz_some h
  obtain ⟨h1, e1⟩ := a.fz b o h e
  rw [frz_at e1]
  exact h1
/-- one step, nothing new waiting -/
theorem Pend.later {B : List Addr} {ow ow' : Ow} {H H' : Hp} {vs : List V} {ss : List Sk} (h : Pend K ow H vs ss B) (f : Same (frz ow H) (frz ow' H')) (o : ∀ b o, H b = some o → ow b = some 0 → H' b = some o ∧ ow' b = some 0) : Pend K ow' H' vs ss B := by
  induction h with
  | nil => exact .nil
  | dat h1 _ ih => exact .dat (Dq.same f _ _ h1) ih
  | own h1 h2 h3 h4 _ ih => exact .own (o _ _ h2 h1).2 (o _ _ h2 h1).1 (Dq.sameAll f _ _ h3) h4 ih
theorem Pend.later2 {B : List Addr} {ow ow' : Ow} {H : Hp} {vs : List V} {ss : List Sk} (h : Pend K ow H vs ss B) (f : frz ow' H = frz ow H) (o : ∀ b ∈ B, ow b = some 0 → ow' b = some 0) : Pend K ow' H vs ss B := by
  induction h with
  | nil => exact .nil
  | dat h1 _ ih => exact .dat (by rw [f]; exact h1) (ih o)
  | own h1 h2 h3 h4 _ ih => exact .own (o _ List.mem_cons_self h1) h2 (by rw [f]; exact h3) h4 (ih fun b hb => o b (List.mem_cons_of_mem _ hb))
theorem Pend.at {B : List Addr} {ow : Ow} {H : Hp} {vs : List V} {ss : List Sk} (h : Pend K ow H vs ss B) : ∀ b ∈ B, ow b = some 0 ∧ ∃ o, H b = some o := by
  induction h with
  | nil => exact fun _ h => nomatch h
  | dat _ _ ih => exact ih
  | own h1 h2 _ _ _ ih => exact fun b hb => (List.mem_cons.mp hb).elim (fun e => by rw [e]; exact ⟨h1, _, h2⟩) (ih b)
theorem Stp.gives0 {ow : Ow} {H : Hp} {a : Addr} {o : HO} (h : H a = none) (tr : ∀ b, ow b ≠ none → H b ≠ none) : StpB [a] ow (give ow a 0) H (upd H a o) := by
  refine ⟨fun b u hb e => ?_, fun b u hb e => ?_, fun b e => ?_, fun b hb z => ?_⟩
  · have nb : b ≠ a := ne_of_none hb h
    exact ⟨by rw [upd_ne nb]; exact hb, by rw [give_ne nb]; exact e⟩
  · have nb : b ≠ a := ne_of_none hb h
    exact ⟨by rw [upd_ne nb]; exact hb, by rw [give_ne nb]; exact e⟩
  · by_cases nb : b = a
    · exact .inl (by rw [nb]; exact List.mem_cons_self)
    · rw [give_ne nb] at e
      exact .inr e
  · have e : b = a := by simpa using hb
    subst e
    exact tr b (by rw [z]; simp) h
open Classical in
noncomputable def dropB (B : List Addr) (ow : Ow) : Ow := fun b => if b ∈ B then none else ow b
theorem StpB.drop {B : List Addr} {ow ow' : Ow} {H H' : Hp} (s : StpB B ow ow' H H') : Stp ow (dropB B ow') H H' := by
  refine ⟨fun b o h e => ⟨(s.fz b o h e).1, ?_⟩, fun b o h e => ⟨(s.out b o h e).1, ?_⟩, fun b e => ?_⟩
  · unfold dropB
    split
    · rfl
    · exact (s.fz b o h e).2
  · unfold dropB
    rw [if_neg (fun z => s.new b z e)]
    exact (s.out b o h e).2
  · unfold dropB at e
    split at e
    · cases e
    · rename_i hb
      exact (s.in0 b e).resolve_left hb
theorem frz_drop {B : List Addr} {ow : Ow} {H : Hp} : Same (frz ow H) (frz (dropB B ow) H) := fun b o h => by
  obtain ⟨e, h⟩ := frz_some h
  have : dropB B ow b = none := by
    unfold dropB
    split
    · rfl
    · exact e
  rw [frz_at this]
  exact h
theorem StpB.sub {B C : List Addr} {ow ow' : Ow} {H H' : Hp} (s : StpB B ow ow' H H') (h : ∀ b, b ∈ B ↔ b ∈ C) : StpB C ow ow' H H' :=
  ⟨s.fz, s.out, fun b e => (s.in0 b e).imp (h b).mp id, fun b hb => s.new b ((h b).mpr hb)⟩
/-- the items, from the left -/
theorem tRvs_run : ∀ (rs : List Rv) (ow : Ow) (E : En) (H : Hp) (z : Rz (List Sk)) (Q : List V → Hp → Prop), R K ow E σ H → runR rs E = some z →
    (∀ c fs E1, z = .ex c fs E1 → ∀ ow' H' cls dv, Stp ow ow' H H' → XcAt K (frz ow' H') cls dv c fs → W cls dv H') →
    (∀ ss E1, z = .ok ss E1 → ∀ ow' H' vs B, R K ow' E1 σ H' → StpB B ow ow' H H' → Pend K ow' H' vs ss B → Q vs H') → tRvs K W rs σ H Q
  | [], ow, E, H, z, Q, rr, hz, _, k => by
    have e := Option.some.inj hz
    subst e
    exact k [] E rfl ow H [] [] rr (StpB.of (Stp.refl _ _)) .nil
  | .e f :: rs, ow, E, H, z, Q, rr, hz, hx, k => by
    show tE K W f σ H fun x H1 => tRvs K W rs σ H1 fun xs H2 => Q (x :: xs) H2
    refine tE_bnd rr hz hx fun d E1 h1 ow1 H1 v R1 S1 q1 => ?_
    rcases bnd_some h1 with ⟨ss, E2, h2, h3⟩ | ⟨c, fs, E2, h2, h3⟩
    · have e := Option.some.inj h3
      subst e
      refine tRvs_run rs ow1 E1 H1 _ _ R1 h2 (fun c fs E3 e => nomatch e) fun ss' E3 e ow2 H2 vs B R2 SB P2 => ?_
      cases e
      have SS := (StpB.of S1).then rr.tr SB
      rw [List.append_nil] at SS
      exact k _ _ rfl ow2 H2 (v :: vs) B R2 SS (.dat (Dq.same SB.same _ _ q1) P2)
    · subst h3
      exact tRvs_run rs ow1 E1 H1 _ _ R1 h2 (fun c' fs' E3 e ow' H' cls dv s x => hx c' fs' E3 e ow' H' cls dv (S1.trans s) x) fun ss' E3 e => nomatch e
  | .l f :: rs, ow, E, H, z, Q, rr, hz, hx, k => by
    show tF K W f σ H fun x H1 => tRvs K W rs σ H1 fun xs H2 => Q (x :: xs) H2
    refine tF_bnd rr hz hx fun ds E1 h1 ow1 H1 a ws hn R1 S1 q1 => ?_
    have R1' := R1.gives (n := 0) (o := .lst ws) hn
    have SG := (StpB.of S1).then rr.tr (Stp.gives0 (o := .lst ws) hn R1.tr)
    rcases bnd_some h1 with ⟨ss, E2, h2, h3⟩ | ⟨c, fs, E2, h2, h3⟩
    · have e := Option.some.inj h3
      subst e
      refine tRvs_run rs _ E1 _ _ _ R1' h2 (fun c fs E3 e => nomatch e) fun ss' E3 e ow2 H2 vs B R2 SB P2 => ?_
      cases e
      have at_ := SB.out a _ upd_same give_at
      have SS := (SG.then rr.tr SB).sub (C := a :: B) fun b => by simp [or_comm]
      refine k _ _ rfl ow2 H2 (.ref a :: vs) (a :: B) R2 SS (.own at_.2 at_.1 ?_ (fun hb => SB.new a hb give_at) P2)
      refine Dq.sameAll SB.same _ _ ?_
      rw [frz_give hn]
      exact q1
    · subst h3
      refine tRvs_run rs _ E1 _ _ _ R1' h2 (fun c' fs' E3 e ow' H' cls dv s x => ?_) fun ss' E3 e => nomatch e
      have SX := SG.then rr.tr (StpB.of s)
      exact hx c' fs' E3 e _ H' cls dv SX.drop (XcAt.same frz_drop x)
/-- what waits is stored -/
def setSk : List Nat → List Sk → En → En
  | i :: is, s :: ss, E => setSk is ss (E.set i s)
  | _, _, E => E
def setV : List Nat → List V → L2.St → L2.St
  | i :: is, v :: vs, σ => setV is vs (σ.set i (some v))
  | _, _, σ => σ
theorem R.adopt {ow : Ow} {E : En} (r : R K ow E σ H) {i : Nat} {a : Addr} {ws : List V} {ds : List PyData} (h0 : ow a = some 0) (ha : H a = some (.lst ws)) (hd : DqAll K (frz ow H) ws ds) : R K (give ow a (i + 1)) (E.set i (.own ds)) (σ.set i (some (.ref a))) H ∧ frz (give ow a (i + 1)) H = frz ow H := by
  have hf : frz (give ow a (i + 1)) H = frz ow H := by
    funext b
    by_cases e : b = a
    · subst e
      rw [frz_no (by rw [give_at]; simp), frz_no (by rw [h0]; simp)]
    · by_cases q : ow b = none
      · rw [frz_at (by rw [give_ne e]; exact q), frz_at q]
      · rw [frz_no (by rw [give_ne e]; exact q), frz_no q]
  refine ⟨⟨fun b e => ?_, by simp [r.ln], fun j s o h1 h2 => ?_⟩, hf⟩
  · by_cases q : b = a
    · subst q
      rw [ha]
      simp
    · rw [give_ne q] at e
      exact r.tr b e
  · by_cases e : i = j
    · subst e
      by_cases hl : i < E.length
      · rw [List.getElem?_set_self hl] at h1
        rw [List.getElem?_set_self (by rw [← r.ln]; exact hl)] at h2
        cases h1
        cases h2
        exact ⟨a, ws, rfl, give_at, ha, by rw [hf]; exact hd⟩
      · rw [List.getElem?_eq_none (by simpa using Nat.le_of_not_lt hl)] at h1
        cases h1
    · rw [List.getElem?_set_ne e] at h1 h2
      have z := r.sl j s o h1 h2
      have ne : ∀ {c : Addr}, ow c = some (j + 1) → c ≠ a := fun {c} hc e => by
        rw [e, h0] at hc
        cases hc
      cases s with
      | un => trivial
      | dat d =>
        obtain ⟨v, e1, z⟩ := z
        exact ⟨v, e1, by rw [hf]; exact z⟩
      | own ds =>
        obtain ⟨c, vs, e1, e2, e3, z⟩ := z
        exact ⟨c, vs, e1, by rw [give_ne (ne e2)]; exact e2, e3, by rw [hf]; exact z⟩
      | drw p st =>
        obtain ⟨e1, ⟨e2, e3, e4⟩, z⟩ := z
        exact ⟨e1, ⟨by rw [give_ne (ne e2)]; exact e2, by rw [give_ne (ne e3)]; exact e3, by rw [give_ne (ne e4)]; exact e4⟩, z⟩
      | tab p q =>
        obtain ⟨e1, ps, e2, z⟩ := z
        exact ⟨by rw [give_ne (ne e1)]; exact e1, ps, e2, by rw [hf]; exact z⟩
theorem R.stores : ∀ {vs : List V} {ss : List Sk} {B : List Addr} {ow0 ow : Ow} {H0 H : Hp} {E : En} {σ : L2.St} (is : List Nat), is.length = ss.length → R K ow E σ H → Pend K ow H vs ss B → StpB B ow0 ow H0 H → ∃ ow', R K ow' (setSk is ss E) (setV is vs σ) H ∧ Stp ow0 ow' H0 H
  | _, _, _, _, _, _, _, _, _, [], hl, r, .nil, s => by
    have z := s.drop
    have e : ∀ (ow : Ow), dropB [] ow = ow := fun ow => by
      funext b
      unfold dropB
      rw [if_neg List.not_mem_nil]
    rw [e] at z
    exact ⟨_, r, z⟩
  | _, _, _, _, _, _, _, _, _, i :: is, hl, r, .dat h1 p, s => R.stores is (by simpa using hl) (r.set h1) p s
  | _, _, _, _, ow, _, H, _, _, i :: is, hl, r, .own (a := a) (B := B) h1 h2 h3 h4 p, s => by
    obtain ⟨r2, hf⟩ := r.adopt (i := i) h1 h2 h3
    refine R.stores is (by simpa using hl) r2 (p.later2 hf fun b hb e => by rw [give_ne (fun z => h4 (by rw [← z]; exact hb))]; exact e) ⟨fun b o h e => ?_, fun b o h e => ?_, fun b e => ?_, fun b hb => s.new b (List.mem_cons_of_mem _ hb)⟩
    · have q := s.fz b o h e
      have nb : b ≠ a := fun z => by
        rw [z, h1] at q
        cases q.2
      exact ⟨q.1, by rw [give_ne nb]; exact q.2⟩
    · have q := s.out b o h e
      have nb : b ≠ a := fun z => s.new a List.mem_cons_self (by rw [← z]; exact e)
      exact ⟨q.1, by rw [give_ne nb]; exact q.2⟩
    · have nb : b ≠ a := fun z => by
        rw [z, give_at] at e
        cases e
      rw [give_ne nb] at e
      rcases s.in0 b e with q | q
      · exact .inl ((List.mem_cons.mp q).resolve_left nb)
      · exact .inr q
/-- a, b = e1, e2 -/
def parS (is : List Nat) (rs : List Rv) : SM := thenS (runR rs) fun ss E => if is.length = ss.length then some (.nx (setSk is ss E)) else none
theorem parS_reads {is : List Nat} {rs : List Rv} {D : Ends} {Q : List V → Hp → Prop} (h : tS K W (parS is rs) D σ H) (k : ∀ vs H', vs.length = is.length → D.nx (setV is vs σ) H' → Q vs H') : tRvs K W rs σ H Q := by
  obtain ⟨ow, E, rr, o, ho, kk⟩ := h
  rcases thenS_some ho with ⟨ss, E1, h1, h2⟩ | ⟨c, fs, E1, h1, h2⟩
  · refine tRvs_run rs ow E H _ Q rr h1 (fun c fs E3 e => nomatch e) fun ss' E3 e ow2 H2 vs B R2 SB P2 => ?_
    cases e
    by_cases hl : is.length = ss.length
    · rw [if_pos hl] at h2
      have e := Option.some.inj h2
      subst e
      obtain ⟨ow3, r3, s3⟩ := R.stores is hl R2 P2 SB
      have hv : ∀ {vs : List V} {ss : List Sk} {B : List Addr}, Pend K ow2 H2 vs ss B → vs.length = ss.length := fun {vs ss B} p => by
        induction p with
        | nil => rfl
        | dat _ _ ih => simp [ih]
        | own _ _ _ _ _ ih => simp [ih]
      exact k vs H2 (by rw [hv P2, hl]) (kk ow3 H2 _ r3 s3)
    · rw [if_neg hl] at h2
      cases h2
  · subst h2
    exact tRvs_run rs ow E H _ Q rr h1 (fun c' fs' E3 e => by cases e; exact kk) fun ss' E3 e => nomatch e
def PRvs (X : Cx) (W : XK) (es : List Expr) (rs : List Rv) : Prop := PA X es (tRvs X.K W rs)
theorem dr_nil : PRvs X W [] [] := pa_nil
theorem dr_e {es : List Expr} {rs : List Rv} (ha : PE X e (tE X.K W f)) (hr : PRvs X W es rs) (hs : starEach (e :: es) X.env = (false, eval e X.env) :: starEach es X.env := by rfl) : PRvs X W (e :: es) (.e f :: rs) := pa_cons ha hr hs
theorem dr_l {es : List Expr} {rs : List Rv} (ha : PE X e (tF X.K W fa)) (hr : PRvs X W es rs) (hs : starEach (e :: es) X.env = (false, eval e X.env) :: starEach es X.env := by rfl) : PRvs X W (e :: es) (.l fa :: rs) := pa_cons ha hr hs
theorem ds_par {i j : Nat} {x y : Str} {rs : List Rv} {px py pt : Pos} {kt k2 pt2} (hc : X.calm = true) (hN : X.N.Nodup) (hi : X.N[i]? = some x) (hj : X.N[j]? = some y) (hij : i ≠ j)
    (hx : X.env.scope.names.lookup x = some .local) (hy : X.env.scope.names.lookup y = some .local) (ha : PRvs X W [a, b] rs)
    (hw : swappedStores [.Tuple [.Name x px, .Name y py] kt pt] (.Tuple [a, b] k2 pt2) X.env = pure (some [x, y]))
    (hs : swapsWithSole [.Tuple [.Name x px, .Name y py] kt pt] (.Tuple [a, b] k2 pt2) pos.line X.env = pure false := by rfl) :
    PS X (.Assign [.Tuple [.Name x px, .Name y py] kt pt] (.Tuple [a, b] k2 pt2) pos) (tS X.K W (parS [i, j] rs)) :=
  PS.imp (ps_par hc hN hi hj hij hx hy ha hw hs) fun D σ H h => parS_reads h fun vs H' hl hn => by
    match vs, hl with
    | [v, w], _ => exact ⟨v, w, rfl, hn⟩
theorem ds_par3 {i j l : Nat} {x y z : Str} {c : Expr} {rs : List Rv} {px py pz pt : Pos} {kt k2 pt2} (hc : X.calm = true) (hN : X.N.Nodup) (hi : X.N[i]? = some x) (hj : X.N[j]? = some y) (hl : X.N[l]? = some z) (hij : i ≠ j) (hil : i ≠ l) (hjl : j ≠ l)
    (hx : X.env.scope.names.lookup x = some .local) (hy : X.env.scope.names.lookup y = some .local) (hz : X.env.scope.names.lookup z = some .local) (ha : PRvs X W [a, b, c] rs)
    (hw : swappedStores [.Tuple [.Name x px, .Name y py, .Name z pz] kt pt] (.Tuple [a, b, c] k2 pt2) X.env = pure (some [x, y, z]))
    (hs : swapsWithSole [.Tuple [.Name x px, .Name y py, .Name z pz] kt pt] (.Tuple [a, b, c] k2 pt2) pos.line X.env = pure false := by rfl) :
    PS X (.Assign [.Tuple [.Name x px, .Name y py, .Name z pz] kt pt] (.Tuple [a, b, c] k2 pt2) pos) (tS X.K W (parS [i, j, l] rs)) :=
  PS.imp (ps_par3 hc hN hi hj hl hij hil hjl hx hy hz ha hw hs) fun D σ H h => parS_reads h fun vs H' hl hn => by
    match vs, hl with
    | [u, v, w], _ => exact ⟨u, v, w, rfl, hn⟩
end
end Sa

set_option maxHeartbeats 4000000
/-! Lambdas without parameters, kept in a list: their making, told by the data layer. -/
namespace Sa
open PySem PySem.Spec PyProof.Rows L2 He NdefX RZ
/-- the function object of a lambda, tracked -/
def LamO (q : Str) (params : Arguments) (body : Expr) (scope : Scope) (clo : List (Str × Addr)) (f c' : Addr) : HO :=
  .ext fun h => ∃ pm ctv : Value, h.get? f = some (PySem.W.kla_obj "<lambda>" q params body scope clo pm c' ctv)
/-- all but the table at P stays -/
def ButP (P : Addr) (H H1 : Hp) : Prop := ∀ b o, b ≠ P → H b = some o → H1 b = some o
/-- a lambda's value: the table of code objects may have grown, the function object is new -/
def tLam (P : Addr) (q : Str) (params : Arguments) (body : Expr) (scope : Scope) (clo : List (Str × Addr)) : TE := fun _ H Q => ∃ ps, H P = some (.tbl ps) ∧ TabF H ps q ∧
  ∀ (f c' : Addr) (H1 : Hp) (ps' : Array Value), ButP P H H1 → H1 P = some (.tbl ps') → TriplesOk ps'.toList → (∀ pos cv, codeAmong pos ps'.toList = some cv → codeAmong pos ps.toList = some cv ∨ (cv = .ref c' ∧ H c' = none)) →
    H1 f = none → H1 c' = some (LamX.CodeO c' q) → Q (.ref f) (upd H1 f (LamO q params body scope clo f c'))
section
variable {X : Cx}
/-- the function object is laid -/
theorem lam_new {pins : List (Addr × Obj)} {σ : L2.St} {H1 : Hp} {s : Shared} {h' : Heap} {tk : Nat} {q : Str} {params : Arguments} {body : Expr} {scope : Scope} {clo : List (Str × Addr)} {pm ctv : Value} {c' : Addr}
    (I : Inv X pins σ H1 { s with heap := h' }) : Inv X pins σ (upd H1 h'.objs.size (LamO q params body scope clo h'.objs.size c')) { s with heap := h'.push (PySem.W.kla_obj "<lambda>" q params body scope clo pm c' ctv), toks := tk } := by
  refine I.laid (t' := tk) (fun b o e => Heap.get?_push_of_some _ e) (Nat.le_refl _) ?_
  refine ⟨⟨pm, ctv, Heap.get?_push_size _ rfl⟩, ⟨_, Heap.get?_push_size _ rfl⟩, fun h1 h2 ⟨a, b, e⟩ k => ⟨a, b, k _ e⟩⟩
theorem pe_lam {c P : Addr} {params : Arguments} {body : Expr} {scope : Scope} {pos : Pos} (TB : LamX.TabB X.base X.mg c P) (hcode : X.env.code = .ref c) (hdef : defaultsOf params X.env = ([], [])) (L : LamX.LamS X.env.scope scope) :
    PE X (.Lambda params body scope pos) (tLam P (X.env.qual ++ "<lambda>") params body scope (cloFrom X.env.cells scope.names [])) := by
  refine ⟨fun pins s σ H Q I ⟨ps, hP, tf, h⟩ => ?_⟩
  refine PySem.W.kla_eval hdef ?_
  have bP : s.heap.BuiltinsAt X.mg P := TB.bm.keeps I.bk
  have oP := I.hok P _ hP
  have clo := closure_ok (L.has I.ok)
  cases hc : codeAmong pos ps.toList with
  | some cv =>
    obtain ⟨c', rfl, hco⟩ := tf.co pos cv hc
    refine PySem.W.kla_makeFunctionHit (mg := X.mg) (c := c) (P := P) (ps := ps) clo I.ok.glob (I.mod.glob.keeps I.bk) hcode (TB.code.keeps I.bk) oP tf.ok hc bP fun ctv h' tk hx hsz => ?_
    have J : Inv X pins σ H { s with heap := h' } := I.kept (t' := s.toks) fun b o e => hx b o e
    refine ⟨.ref h'.objs.size, _, lam_new (s := s) J, rfl, ?_⟩
    exact h h'.objs.size c' H ps (fun b o _ e => e) hP tf.ok (fun pos cv e => .inl e) (I.hok.fresh hsz) hco
  | none =>
    refine PySem.W.kla_makeFunction (mg := X.mg) (c := c) (P := P) (ps := ps) clo I.ok.glob (I.mod.glob.keeps I.bk) hcode (TB.code.keeps I.bk) oP tf.ok hc TB.gP bP fun c' ctv h' tk hx hge hlt hrec htb => ?_
    obtain ⟨c2, oc, vs, t, e2, hoc, hd, hv⟩ := hrec
    cases e2
    have nC : H c' = none := I.hok.fresh hge
    have nPc : P ≠ c' := ne_of_none hP nC
    have J := LamX.inv_table (t' := s.toks) (more := #[rawInt pos.line, rawInt pos.col, .ref c']) (h' := h') I hP (fun b o hb e => hx b o hb e) htb hge ⟨oc, vs, t, hoc, hd, hv⟩
    refine ⟨.ref h'.objs.size, _, lam_new (s := s) J, rfl, ?_⟩
    have eL : (ps ++ #[rawInt pos.line, rawInt pos.col, .ref c']).toList = ps.toList ++ [rawInt pos.line, rawInt pos.col, .ref c'] := by simp
    refine h h'.objs.size c' _ (ps ++ #[rawInt pos.line, rawInt pos.col, .ref c']) (fun b o nb e => ?_) ?_ ?_ (fun p' cv e => ?_) (J.hok.fresh (Nat.le_refl _)) upd_same
    · rw [upd_ne (ne_of_none e nC), upd_ne nb]
      exact e
    · rw [upd_ne nPc, upd_same]
    · rw [eL]
      exact PySem.TriplesOk_snoc _ _ _ _ tf.ok
    · rw [eL] at e
      rcases LamX.among_app _ tf.ok e with z | z
      · exact .inl z
      · exact .inr ⟨z, nC⟩
end
section
variable {K : PySem.W.Frag} {ow : Ow} {E : En} {σ : L2.St} {H H1 : Hp}
/-- the slots behind a lambda's making -/
theorem R.lam {P c' : Addr} {q : Str} {w : Nat} {ps ps' : Array Value} (r : R K ow E σ H) (hw : E[w]? = some (.tab P q)) (hP : H P = some (.tbl ps)) (k : ButP P H H1) (hP1 : H1 P = some (.tbl ps')) (ok : TriplesOk ps'.toList)
    (hc : ∀ pos cv, codeAmong pos ps'.toList = some cv → codeAmong pos ps.toList = some cv ∨ (cv = .ref c' ∧ H c' = none)) (hco : H1 c' = some (LamX.CodeO c' q)) : R K ow E σ H1 ∧ Stp ow ow H H1 := by
  have tab : ow P = some (w + 1) ∧ TabF (frz ow H) ps q := by
    obtain ⟨hl, _⟩ := List.getElem?_eq_some_iff.mp hw
    obtain ⟨e1, ps0, e2, t⟩ := r.sl w _ _ hw (List.getElem?_eq_getElem (by rw [← r.ln]; exact hl))
    rw [hP] at e2
    cases e2
    exact ⟨e1, t⟩
  obtain ⟨oP, t⟩ := tab
  have st : Stp ow ow H H1 := by
    refine ⟨fun b o hb e => ⟨k b o (fun z => ?_) hb, e⟩, fun b o hb e => ⟨k b o (fun z => ?_) hb, e⟩, fun _ e => e⟩
    · rw [z, oP] at e
      cases e
    · rw [z, oP] at e
      cases e
  have sm := st.same
  refine ⟨⟨fun b e z => ?_, r.ln, fun i s o h1 h2 => ?_⟩, st⟩
  · cases y : H b with
    | none => exact r.tr b e y
    | some u =>
      by_cases nb : b = P
      · rw [nb, hP1] at z
        cases z
      · rw [k b u nb y] at z
        cases z
  · have z := r.sl i s o h1 h2
    have ne : ∀ {b : Addr} {u : HO}, H b = some u → (∀ xs, u ≠ .tbl xs) → b ≠ P := fun {b u} e n z => by
      rw [z, hP] at e
      cases e
      exact n _ rfl
    cases s with
    | un => trivial
    | dat d =>
      obtain ⟨v, e1, z⟩ := z
      exact ⟨v, e1, Dq.same sm _ _ z⟩
    | own ds =>
      obtain ⟨a, vs, e1, e2, e3, z⟩ := z
      exact ⟨a, vs, e1, e2, k _ _ (ne e3 fun _ z => by cases z) e3, Dq.sameAll sm _ _ z⟩
    | drw p st =>
      obtain ⟨e1, e2, z0, z1, z2, z3⟩ := z
      exact ⟨e1, e2, z0, k _ _ (ne z1 fun _ z => by cases z) z1, k _ _ (ne z2 fun _ z => by cases z) z2, k _ _ (ne z3 fun _ z => by cases z) z3⟩
    | tab p q1 =>
      obtain ⟨e1, ps1, e2, z⟩ := z
      by_cases np : p = P
      · subst np
        have ew : i = w := by
          rw [oP] at e1
          have := Option.some.inj e1
          omega
        subst ew
        rw [hw] at h1
        cases h1
        rw [hP] at e2
        cases e2
        refine ⟨e1, ps', hP1, ok, fun pos cv e => ?_⟩
        rcases hc pos cv e with y | ⟨rfl, y⟩
        · obtain ⟨c, e1, e2⟩ := t.co pos cv y
          exact ⟨c, e1, sm _ _ e2⟩
        · exact ⟨c', rfl, by rw [frz_at (r.fresh y)]; exact hco⟩
      · exact ⟨e1, ps1, k _ _ np e2, z.same sm⟩
end
end Sa

set_option maxHeartbeats 4000000
/-! The data layer: set(items) of ints and texts, counted. -/
namespace Sa
open PySem PySem.Spec PyProof.Rows L2 He NdefX RZ
instance (priority := 10000) keyBEq : BEq Key := instBEqOfDecidableEq
instance (priority := 10000) keyLaw : LawfulBEq Key := inferInstanceAs (@LawfulBEq Key instBEqOfDecidableEq)
/-- the keys behind k in the order in which they are met -/
def metK : List Key → List Key → List Key
  | acc, [] => acc
  | acc, k :: ks => metK (if k ∈ acc then acc else acc ++ [k]) ks
theorem metK_snoc : ∀ (ks acc : List Key) (k : Key), metK acc (ks ++ [k]) = if k ∈ metK acc ks then metK acc ks else metK acc ks ++ [k]
  | [], acc, k => rfl
  | x :: ks, acc, k => metK_snoc ks _ k
theorem metK_len : ∀ (ks acc : List Key), (metK acc ks).length ≤ acc.length + ks.length
  | [], acc => Nat.le_refl _
  | x :: ks, acc => by
    show (metK (if x ∈ acc then acc else acc ++ [x]) ks).length ≤ acc.length + (ks.length + 1)
    have h := metK_len ks (if x ∈ acc then acc else acc ++ [x])
    have e : (if x ∈ acc then acc else acc ++ [x]).length ≤ acc.length + 1 := by
      split
      · omega
      · simp
    omega
def cntK (ks : List Key) : Nat := (metK [] ks).length
section
variable {P : Program} {w : World} {A : Around} {E : Value → Shared → Prop} {s : Shared}
/-- the set at a holds what is met in ks -/
def MetAt (P : Program) (w : World) (h : Heap) (a : Addr) (ks : List Key) : Prop := h.SetOf (mixKind P w) a (fun k => decide (k ∈ metK [] ks)) (cntK ks)
theorem MetAt.to {h h' : Heap} {a : Addr} {ks : List Key} (m : MetAt P w h a ks) (k : ∀ o, h.get? a = some o → h'.get? a = some o) : MetAt P w h' a ks := setOf_at m k
theorem MetAt.one {a : Addr} {ks : List Key} {k : Key} {v : Value} {Q : Unit → Shared → Prop} (m : MetAt P w s.heap a ks) (rk : RelV (kV k) v) (hb : ks.length + 1 < scanBound)
    (q : ∀ h', Heap.SameBut a s.heap h' → MetAt P w h' a (ks ++ [k]) → Q () { s with heap := h', toks := s.toks + 1 }) : wpAny (model P w) A (setAdd a v) (fun _ s' => Q () s') E s := by
  have hk := kV_is (P := P) (w := w) rk
  have hl : cntK ks + 1 < scanBound := by
    have := metK_len ks []
    unfold cntK
    simp at this
    omega
  unfold setAdd
  refine wpAny_holding (wpAny_bind ((mixKind P w).pyHash (k := k) hk ?_))
  refine wpAny_setAddHashed_of (knd := mixKind P w) (s := { s with toks := s.toks + 1 }) hk (key_scan rk) m hl fun h' sb new => q h' sb ?_
  unfold MetAt cntK
  rw [metK_snoc]
  refine SetOf_congr new (fun j => ?_) ?_
  · by_cases e : k ∈ metK [] ks
    · rw [if_pos e]
      by_cases ej : j = k
      · subst ej
        simp [e]
      · simp [ej]
    · rw [if_neg e]
      simp [List.mem_append]
  · show (if decide (k ∈ metK [] ks) = true then cntK ks else cntK ks + 1) = _
    by_cases e : k ∈ metK [] ks
    · simp [e, cntK]
    · simp [e, cntK]
/-- the loop of set's __init__: what is left to meet -/
theorem met_loop {R : Result → Shared → Prop} {I S : Addr} {fp wr : List Addr} {G : Array GenState → Array GenState → Prop} {n : Nat} {Pv : Nat → Value → Prop} {St : Nat → Shared → Prop} (W : WalksS P w A.in1 I fp wr G n Pv St) (out : S ∉ fp)
    (val : ∀ i v, Pv i v → ∃ k, ks[i]? = some k ∧ RelV (kV k) v) (hb : ks.length + 1 < scanBound) (hn : ks.length = n) : ∀ (left : Nat) (i : Nat) (s : Shared), i + left = n → St i s → MetAt P w s.heap S (ks.take i) →
    (∀ s', Moved (S :: wr) G s s' → MetAt P w s'.heap S ks → R (.ok (.ret .none)) s') → codeAny (model P w) A (.builtin "set.update.loop" ⟨[.ref S, .ref I], []⟩) R s := by
  have sw : S ∉ wr := fun z => out (W.sub _ z)
  have up : ∀ b ∈ wr, b ∈ S :: wr := fun b z => .tail _ z
  intro left
  induction left with
  | zero =>
    intro i s hi st m r
    have ei : i = n := hi
    refine codeAny_builtin F.entry_set_update_loop ?_
    rw [Around.under_plainId F.plain_set_update_loop _]
    show wpAny _ A.in1 (pyNext (.ref I) >>= _) _ _ s
    refine wpAny_bind (W.done s _ _ (ei ▸ st) fun s' mv => ?_)
    refine wpAny_pure (r s' (mv.mono up) ?_)
    have e : ks.take i = ks := List.take_of_length_le (by omega)
    rw [e] at m
    exact m.to fun o h => mv.heap S o sw h
  | succ left ih =>
    intro i s hi st m r
    refine codeAny_builtin F.entry_set_update_loop ?_
    rw [Around.under_plainId F.plain_set_update_loop _]
    show wpAny _ A.in1 (pyNext (.ref I) >>= _) _ _ s
    refine wpAny_bind (W.item i s _ _ (by omega) st fun v s1 pv st1 mv => ?_)
    obtain ⟨k, hk, rk⟩ := val i v pv
    have m1 : MetAt P w s1.heap S (ks.take i) := m.to fun o h => mv.heap S o sw h
    show wpAny _ A.in1 (holding [v] (setAdd S v) >>= _) _ _ s1
    have ht : (ks.take i).length + 1 < scanBound := by
      have := List.length_take_le i ks
      omega
    refine wpAny_bind (wpAny_holding (MetAt.one (Q := fun _ s2 => wpAny _ A.in1 _ _ _ s2) m1 rk ht fun h2 sb m2 => ?_))
    have e : ks.take (i + 1) = ks.take i ++ [k] := by
      rw [List.take_add_one, hk]
      rfl
    rw [← e] at m2
    have st2 := W.frame (i + 1) s1 h2 (s1.toks + 1) st1 (Nat.le_succ _) fun b z o h => by
      rw [sb.2 b fun q => out (q ▸ z)]
      exact h
    refine wpAny_pure ⟨plainId_quiet F.plain_set_update_loop _, ih (i + 1) _ (by omega) st2 m2 fun s' mv2 m3 => r s' ?_ m3⟩
    refine Moved.trans W.gtrans ((mv.mono up).then_heap (Nat.le_succ _) fun b o z h => ?_) mv2
    rw [sb.2 b fun q => z (q ▸ List.mem_cons_self)]
    exact h
abbrev noSet (led : Bool) : Obj := { cls := .type "set", dict := none, data := .set #[] 0 (.fresh 0 0 led) }
theorem met_no {h : Heap} {led : Bool} {a : Addr} (e : h.get? a = some (noSet led)) : MetAt P w h a [] :=
  SetOf_congr ((setObjOf_fresh (knd := mixKind P w) led).setOf e (by unfold scanBound; omega)) (fun _ => rfl) rfl
/-- the heap behind set(..): what was there is there, the new set holds the keys -/
def SetGot (P : Program) (w : World) (s : Shared) (ks : List Key) (s' : Shared) : Prop := ∃ h' tk, s' = { s with heap := h', toks := tk } ∧ MetAt P w h' s.heap.objs.size ks ∧ ∀ b o, s.heap.get? b = some o → h'.get? b = some o
/-- what __init__ is to do -/
def InitOk (P : Program) (w : World) (A : Around) (E : Value → Shared → Prop) (s : Shared) (ks : List Key) (v : Value) (led : Bool) : Prop :=
  wpAny (model P w) A.in1.in1 (Builtin.«set.__init__» ⟨[.ref s.heap.objs.size, v], []⟩) (fun fin s' => match fin with
      | .done f => wants (fun r s' => r = .none ∧ SetGot P w s ks s') E (.ok f) s'
      | .again c => c.quiet = true ∧ codeAny (model P w) A.in1 c (wants (fun r s' => r = .none ∧ SetGot P w s ks s') E) s')
    (fun e s' => wants (fun r s' => r = .none ∧ SetGot P w s ks s') E (.error e) s') { s with heap := s.heap.push (noSet led) }
/-- the code of set(v), up to what __init__ does -/
theorem set_call {v : Value} {ks : List Key} {Q : Value → Shared → Prop} (body : ∀ led, InitOk P w A E s ks v led)
    (h : ∀ s', SetGot P w s ks s' → Q (.ref s.heap.objs.size) s') : wpAny (model P w) A (call (.type "set") [v]) Q E s := by
  obtain ⟨c, tl, hmro⟩ := PySem.F.called_set.mro
  have hmade := PySem.F.called_set.made
  have hsub := PySem.F.called_set.sub
  refine wpAny_call (codeAny_of_tree ?_)
  show wpAny _ _ (callAny (.type "set") _) _ _ _
  refine wpAny_pure ⟨Code.quiet_builtin _ (by decide +kernel), codeAny_builtin PySem.F.entry_type_call ?_⟩
  rw [Around.under_plain (weight_type_call_type "set" [v] []) rfl]
  have h1 := PySem.F.called_set.notType
  have h2 := PySem.F.called_set.canCreate
  have hct := PySem.F.typeCall_set_1 v
  repeat (any_goals (first | assumption | wp_step))
  refine codeAny_mono (code_set_new_1 v (E := E) (Q₁ := fun obj s₁ => ∃ led : Bool, obj = .ref s.heap.objs.size ∧ s₁ = { s with heap := s.heap.push (noSet led) }) fun led => ⟨led, rfl, rfl⟩) fun r s₁ hr => ?_
  cases r with
  | error e => exact hr
  | ok fl =>
    cases fl with
    | ret obj =>
      obtain ⟨led, rfl, rfl⟩ := hr
      have hS : (s.heap.push (noSet led)).get? s.heap.objs.size = some (noSet led) := Heap.get?_push_size _ rfl
      have hT : Shared.TypeIs { s with heap := s.heap.push (noSet led) } (.ref s.heap.objs.size) "set" := ⟨_, hS, rfl⟩
      have hli := PySem.F.called_set.init.lookup
      have hbi := PySem.F.called_set.init.bind (.ref s.heap.objs.size)
      repeat (any_goals (first | assumption | wp_step))
      refine codeAny_mono (codeAny_call_builtin (R := wants (fun r s' => r = .none ∧ SetGot P w s ks s') E) PySem.F.called_set.init.plain PySem.F.entry_set_init (check_set_init_1 hT ?_)) fun r₂ s₂ hr₂ => ?_
      · exact body led
      · cases r₂ with
        | error e => exact hr₂
        | ok fl₂ =>
          cases fl₂ with
          | ret r =>
            obtain ⟨rfl, g⟩ := hr₂
            have g0 := g
            obtain ⟨h', tk, rfl, m, keep⟩ := g
            repeat (any_goals (first | assumption | wp_step))
            exact h _ g0
          | _ => exact hr₂.elim
    | _ => exact hr.elim
/-- the walk over the items begins -/
theorem met_walk {ks : List Key} {items : List Value} {l : Addr} {led : Bool} {it : Obj} {fp : List Addr} {St : Nat → Shared → Prop} {B : Around}
    (W : WalksS P w B.in1 (s.heap.push (noSet led)).objs.size fp [(s.heap.push (noSet led)).objs.size] (fun a b => b = a) items.toArray.size (fun i v => items.toArray[i]? = some v) St)
    (hf : fp = [(s.heap.push (noSet led)).objs.size, l]) (hl : l < s.heap.objs.size) (rv : Vals (ks.map kV) items) (hb : ks.length + 1 < scanBound)
    (st : St 0 { s with heap := (s.heap.push (noSet led)).push it }) :
    codeAny (model P w) B (.builtin "set.update.loop" ⟨[.ref s.heap.objs.size, .ref (s.heap.push (noSet led)).objs.size], []⟩) (fun r s' => r = .ok (.ret .none) ∧ SetGot P w s ks s') { s with heap := (s.heap.push (noSet led)).push it } := by
  subst hf
  have len : items.length = ks.length := by
    rw [← rv.length, List.length_map]
  have out : s.heap.objs.size ∉ [(s.heap.push (noSet led)).objs.size, l] := by
    rw [Heap.size_push]
    simp only [List.mem_cons, List.not_mem_nil, or_false, not_or]
    exact ⟨Nat.ne_of_lt (Nat.lt_succ_self _), Nat.ne_of_gt hl⟩
  refine met_loop W out (fun i v hv => ?_) hb (by simp [len]) ks.length 0 _ (by simp [len]) st ?_ fun s' mv m => ?_
  · have hv : items[i]? = some v := by simpa using hv
    have hi : i < ks.length := by
      have := (List.getElem?_eq_some_iff.mp hv).1
      omega
    refine ⟨ks[i], List.getElem?_eq_getElem hi, ?_⟩
    obtain ⟨u, hu, ru⟩ := Vals.get rv (i := i) (x := kV ks[i]) (by rw [List.getElem?_map, List.getElem?_eq_getElem hi]; rfl)
    rw [hv] at hu
    have e := Option.some.inj hu
    subst e
    exact ru
  · exact met_no (led := led) (Heap.get?_push_of_some _ (Heap.get?_push_size _ rfl))
  · obtain ⟨h', g', d', tk', os'⟩ := s'
    have eg : g' = s.gens := mv.gens
    have ed : d' = s.drawn := mv.drawn
    have eo : os' = s.os := mv.os
    subst eg
    subst ed
    subst eo
    refine ⟨rfl, h', tk', rfl, m, fun b o e => ?_⟩
    have lb := Heap.lt_size e
    refine mv.heap b o ?_ (Heap.get?_push_of_some _ (Heap.get?_push_of_some _ e))
    rw [Heap.size_push]
    simp only [List.mem_cons, List.not_mem_nil, or_false, not_or]
    exact ⟨Nat.ne_of_lt lb, Nat.ne_of_lt (Nat.lt_succ_of_lt lb)⟩
theorem init_list {ks : List Key} {items : List Value} {l : Addr} {led : Bool} (hh : A.handled = none) (hl : s.heap.IsList l items.toArray) (rv : Vals (ks.map kV) items) (hb : ks.length + 1 < scanBound) : InitOk P w A E s ks (.ref l) led := by
  obtain ⟨ol, hol, hcl, nl, hdl⟩ := hl
  obtain ⟨ocls, odict, odata, oslots⟩ := ol
  simp only at hcl hdl
  subst hcl
  subst hdl
  have hol' : (s.heap.push (noSet led)).get? l = some { cls := .type "list", dict := odict, data := .seq items.toArray nl, slots := oslots } := Heap.get?_push_of_some _ hol
  have hl1 : (s.heap.push (noSet led)).IsList l items.toArray := ⟨_, hol', rfl, nl, rfl⟩
  have ne1 := PySem.F.sub_list_set
  have ne2 := PySem.F.sub_list_frozenset
  have ne3 : (Value.type "list" == Value.type "dict") = false := by decide
  unfold InitOk Builtin.«set.__init__» noKeywords Builtin.Frozenset.updateFrom
  generalize hPI : pyIter = PI
  wp_walk
  subst hPI
  refine wpAny_pyIter_list hl1 ?_
  refine wpAny_bind (wpAny_runValue ?_)
  have hlS : l < s.heap.objs.size := Heap.lt_size hol
  have ne : l ≠ (s.heap.push (noSet led)).objs.size := by
    rw [Heap.size_push]
    exact Nat.ne_of_lt (Nat.lt_succ_of_lt hlS)
  refine codeAny_mono (met_walk (B := A.in1.in1) (led := led) (Walks.list (by simp [hh]) _ l ne items.toArray).toS rfl hlS rv hb ⟨⟨_, Heap.get?_push_size _ rfl, rfl, rfl⟩, hl1.push _⟩) fun r s' z => ?_
  obtain ⟨rfl, g⟩ := z
  exact wpAny_pure (wpAny_pure ⟨rfl, g⟩)
theorem init_tuple {ks : List Key} {items : List Value} {l : Addr} {led : Bool} (hh : A.handled = none) (hl : s.heap.IsTuple l items.toArray) (rv : Vals (ks.map kV) items) (hb : ks.length + 1 < scanBound) : InitOk P w A E s ks (.ref l) led := by
  obtain ⟨ol, hol, hcl, nl, hdl⟩ := hl
  obtain ⟨ocls, odict, odata, oslots⟩ := ol
  simp only at hcl hdl
  subst hcl
  subst hdl
  have hol' : (s.heap.push (noSet led)).get? l = some { cls := .type "tuple", dict := odict, data := .seq items.toArray nl, slots := oslots } := Heap.get?_push_of_some _ hol
  have hl1 : (s.heap.push (noSet led)).IsTuple l items.toArray := ⟨_, hol', rfl, nl, rfl⟩
  have ne1 := PySem.F.sub_tuple_set
  have ne2 := PySem.F.sub_tuple_frozenset
  have ne3 : (Value.type "tuple" == Value.type "dict") = false := by decide
  unfold InitOk Builtin.«set.__init__» noKeywords Builtin.Frozenset.updateFrom
  generalize hPI : pyIter = PI
  wp_walk
  subst hPI
  refine wpAny_pyIter_tuple hl1 ?_
  refine wpAny_bind (wpAny_runValue ?_)
  have hlS : l < s.heap.objs.size := Heap.lt_size hol
  have ne : l ≠ (s.heap.push (noSet led)).objs.size := by
    rw [Heap.size_push]
    exact Nat.ne_of_lt (Nat.lt_succ_of_lt hlS)
  refine codeAny_mono (met_walk (B := A.in1.in1) (led := led) (Walks.tuple (by simp [hh]) _ l ne items.toArray).toS rfl hlS rv hb ⟨⟨_, Heap.get?_push_size _ rfl, rfl, rfl⟩, hl1.push _⟩) fun r s' z => ?_
  obtain ⟨rfl, g⟩ := z
  exact wpAny_pure (wpAny_pure ⟨rfl, g⟩)
end
section
variable {X : Cx} {K : PySem.W.Frag}
/-- set(items), counted by len -/
def keyO : PyData → Option Key
  | .int i => some (.inl i)
  | .str x => some (.inr x)
  | _ => none
def keysO : List PyData → Option (List Key)
  | [] => some []
  | d :: ds => match keyO d, keysO ds with
    | some k, some ks => some (k :: ks)
    | _, _ => none
theorem key_dq {F : Hp} {v : V} {d : PyData} {k : Key} (h1 : Dq K F v d) (q : keyO d = some k) : v = kV k := by
  cases d with
  | int i =>
    have e := Option.some.inj q
    subst e
    cases h1
    rfl
  | str x =>
    have e := Option.some.inj q
    subst e
    cases h1
    rfl
  | _ => cases q
theorem keys_dq {F : Hp} : ∀ {vs : List V} {ds : List PyData} {ks : List Key}, DqAll K F vs ds → keysO ds = some ks → vs = ks.map kV
  | _, [], ks, h, e => by
    have e := Option.some.inj e
    subst e
    cases h
    rfl
  | _, d :: ds, ks, h, e => by
    cases h with
    | cons h1 h2 =>
      unfold keysO at e
      cases q : keyO d with
      | none =>
        rw [q] at e
        cases e
      | some k =>
        cases q2 : keysO ds with
        | none =>
          rw [q, q2] at e
          cases e
        | some ks2 =>
          rw [q, q2] at e
          have e := Option.some.inj e
          subst e
          rw [keys_dq h2 q2]
          rw [List.map_cons, key_dq h1 q]
def cntO (ds : List PyData) : Option PyData := match keysO ds with
  | some ks => if ks.length < 4000 then some (.int (cntK ks : Nat)) else none
  | none => none
/-- set(a) of keys: the new set, then len -/
theorem call_lenSetK {pins : List (Addr × Obj)} {σ : L2.St} {H : Hp} {s : Shared} {a : Addr} {ks : List Key} {Q : Value → Shared → Prop} {E : Value → Shared → Prop} (hc : X.calm = true) (I : Inv X pins σ H s) (hq : SqL X.K H a (ks.map kV) ∨ SqT X.K H a (ks.map kV)) (hl : ks.length < 4000)
    (h : ∀ p s1, Inv X pins σ H s1 → MetAt X.prog X.w s1.heap p ks → Q (.ref p) s1) : wpAny (model X.prog X.w) X.A (call (.type "set") [.ref a]) Q E s := by
  have fin : ∀ s1, SetGot X.prog X.w s ks s1 → Q (.ref s.heap.objs.size) s1 := fun s1 g => by
    obtain ⟨h', tk, rfl, m, k⟩ := g
    exact h _ _ (I.kept k) m
  rcases hq with hq | hq
  · obtain ⟨its, r, pl, hz⟩ := I.list hq
    exact set_call (fun led => init_list (I.ok.hd hc) pl.isList r (by unfold scanBound; omega)) fin
  · obtain ⟨its, r, pl, hz⟩ := I.tuple hq
    exact set_call (fun led => init_tuple (I.ok.hd hc) pl r (by unfold scanBound; omega)) fin
def lenSetE (f : M (Bool × List PyData)) : M PyData := bnd f fun z => ofO (cntO z.2)
variable {W : XK} {a : Expr} {fq : M (Bool × List PyData)} {p pos : Pos}
theorem de_lenSet {x y : Str} {p2 q : Pos} (ha : PE X a (tQ X.K W fq)) (hm : X.mg "len" = none) (hm2 : X.mg "set" = none) (hc : X.calm = true := by rfl) (ex : x = "len" := by rfl) (ey : y = "set" := by rfl) (hg : Gl X x := by rfl) (hg2 : Gl X y := by rfl)
    (na : starEach [a] X.env = (false, eval a X.env) :: starEach [] X.env := by rfl) : PE X (.Call (.Name x p) [.Call (.Name y p2) [a] [] q] [] pos) (tE X.K W (lenSetE fq)) := by
  subst ex
  subst ey
  refine ⟨fun pins s σ H Q I h => ?_⟩
  obtain ⟨ow, E, rr, z, hz, k⟩ := h
  refine Call_ (ld_blt I hg hm PySem.boot_len ?_)
  refine PyProof.Rows.callWith_builtin1 (PyProof.Rows.args_cons ?_ rfl) rfl rfl
  refine Call_ (ld_blt I hg2 hm2 PyProof.Rows.boot_set ?_)
  have hd : tQ X.K W fq σ H fun x H1 => ∃ a ks, x = .ref a ∧ (SqL X.K H1 a (ks.map kV) ∨ SqT X.K H1 a (ks.map kV)) ∧ ks.length < 4000 ∧ Q (.int (cntK ks : Nat)) H1 := by
    refine tQ_bnd rr hz (fun c fs E1 e => by subst e; exact k) fun d E1 h1 ow1 H1 b vs R1 S1 sq q1 => ?_
    obtain ⟨w, hw, rfl⟩ := ofO_some h1
    unfold cntO at hw
    cases hk : keysO d.2 with
    | none =>
      rw [hk] at hw
      cases hw
    | some ks =>
      rw [hk] at hw
      simp only at hw
      split at hw
      · next hl =>
        have e := Option.some.inj hw
        subst e
        have ev := keys_dq q1 hk
        subst ev
        exact ⟨b, ks, rfl, sq.or, hl, k ow1 H1 _ R1 S1 (.int _)⟩
      · cases hw
  refine PyProof.Rows.callWith_type1 (PyProof.Rows.args_cons (thn (ha.run pins s σ H _ I hd) fun v s1 ⟨x, H1, I1, r1, q1⟩ => PyProof.Rows.args_nil ?_) na) na rfl
  obtain ⟨l, ks, rfl, hq, hl, q1⟩ := q1
  cases r1
  refine call_lenSetK hc I1 hq hl fun p s2 I2 m => ?_
  refine PyProof.Rows.args_nil ?_
  obtain ⟨o, es, ep, t, ho, hex, hd, _, _, _, hf, hn⟩ := m
  have hle : cntK ks ≤ ks.length := by
    have := metK_len ks []
    unfold cntK
    simpa using this
  exact call_len_set ho hex hd hf (by rw [hn] <;> omega) ⟨.int (cntK ks : Nat), H1, I2.tok _, ⟨_, by rw [hn]⟩, q1⟩
end
end Sa

set_option maxHeartbeats 4000000
/-! The data layer: set comprehensions of ints and texts, counted. -/
namespace Sa
open PySem PySem.Spec PyProof.Rows L2 He NdefX RZ
/-- y goes into the set at D -/
def intoS (P : Program) (w : World) (D : Addr) (N : Hp → Prop) : VK := fun y H => ∃ (k : Key) (S : Key → Bool) (n : Nat), y = kV k ∧ H D = some (SetK P w D S n) ∧ n + 1 < scanBound ∧ N (upd H D (SetK P w D (fun j => S j || decide (j = k)) (if S k = true then n else n + 1)))
/-- a turn behind the item x -/
def turnS (P : Program) (w : World) (g : TG) (tt : TT) (te : TE) (D : Addr) (N : Hp → Prop) (τ : L2.St) (vs : List Nat) : V → Hp → Prop := fun x H => g x τ H fun σ H => wipe σ vs = τ ∧ tt σ H fun b H => if b = true then te σ H (intoS P w D N) else N H
def tSk (P : Program) (w : World) (wi : TI) (g : TG) (tt : TT) (te : TE) (vs : List Nat) : TE := fun σ H Q => wi σ H fun J H1 => ∀ D, H1 D = none → ∃ W : Nat → Nat → Hp → Prop, (∃ m, W 0 m (upd H1 D (SetK P w D (fun _ => false) 0))) ∧ ∀ i m H, W i m H →
  (J.stop i H ∧ Q (.ref D) H) ∨ (J.go i H ∧ ∃ N : Hp → Prop, (∀ H', N H' → ∃ m', m' < m ∧ W (i + 1) m' H') ∧ ∀ x H', J.yld i H x H' → turnS P w g tt te D N (wipe σ vs) vs x H')
section
variable {X : Cx}
theorem intoS_ok {pins : List (Addr × Obj)} {σ : L2.St} {H : Hp} {s : Shared} {E : Value → Shared → Prop} {D : Addr} {N : Hp → Prop} {y : V} {u : Value} {Q : Value → Shared → Prop} (I : Inv X pins σ H s) (r : RelV y u) (h : intoS X.prog X.w D N y H)
    (q : ∀ v s' H', Inv X pins σ H' s' → N H' → Q v s') : wpAny (model X.prog X.w) X.A (call (.builtin "set.add") [.ref D, u]) Q E s := by
  obtain ⟨k, S, n, rfl, hD, room, hn⟩ := h
  refine call_set_add (kV_is r) (key_scan r) (setK_get I hD) room fun h' sb new => ?_
  have there : ∃ u, h'.get? D = some u := by
    have ⟨o, _, _, _, ho, _⟩ := new
    exact ⟨o, ho⟩
  exact q _ _ _ (I.write (e := D) (t' := s.toks + 1) (by rw [hD]; trivial) (.inl rfl) (fun b u hb hu => (sb.2 b hb).trans hu) there (setK_new new)) hn
theorem noSetK {h : Heap} {P : Program} {w : World} : (h.push (noSet (!w.params.followText "set-order"))).SetOf (mixKind P w) h.objs.size (fun _ => false) 0 :=
  (setObjOf_fresh (knd := mixKind P w) _).setOf (Heap.get?_push_size _ rfl) (by unfold scanBound; omega)
variable {elt tg iter : Expr} {ifs : List Expr} {scope : Scope} {own : List (Str × Nat)} {pos : Pos} {wi : TI} {g : TG} {tt : TT} {te : TE}
/-- one turn's end: back at the loop's head -/
def AtHead (Y : Cx) (fp : List Addr) (tn : Nat → Heap → Prop) (τ : L2.St) (W : Nat → Nat → Hp → Prop) (n : Nat) (s : Shared) : Prop := ∃ i H, Inv Y [] τ H s ∧ tn i s.heap ∧ (∀ b ∈ fp, H b = none) ∧ W i n H
theorem back_head {Y : Cx} {fp : List Addr} {tn : Nat → Heap → Prop} {σ σ8 : L2.St} {vs : List Nat} {W : Nat → Nat → Hp → Prop} {n m' i : Nat} {s7 s' : Shared} {H' : Hp} (keep : ∀ i h h', tn i h → (∀ b ∈ fp, ∀ o, h.get? b = some o → h'.get? b = some o) → tn i h') (obj : ∀ b ∈ fp, ∃ o, s7.heap.get? b = some o)
    (t7 : tn (i + 1) s7.heap) (ew : wipe σ8 vs = wipe σ vs) (I : Inv Y ([] ++ pinsAt fp s7.heap) σ8 H' s') (hm : m' < n) (w : W (i + 1) m' H') : ∃ m, m < n ∧ AtHead Y fp tn (wipe σ vs) W m s' := by
  have pin : ∀ b ∈ fp, ∀ o, s7.heap.get? b = some o → s'.heap.get? b = some o ∧ H' b = none := fun b hb o e => by
    have z := I.pin (b, o) (List.mem_append_right _ (List.mem_append_right _ (mem_pinsAt hb e)))
    exact ⟨z.1, z.2.1⟩
  refine ⟨m', hm, i + 1, H', (I.unpinned (pins := [])).weak ?_ (fun j v e => ?_), keep _ _ _ t7 fun b hb o e => (pin b hb o e).1, fun b hb => ?_, w⟩
  · rw [← ew, wipe_length]
  · rw [← ew] at e
    exact (wipe_some e).1
  · obtain ⟨o, e⟩ := obj b hb
    exact (pin b hb o e).2
/-- the loop, from the new set on -/
theorem sk_run {pins : List (Addr × Obj)} {σ : L2.St} {H3 : Hp} {s3 : Shared} {Q : VK} {it D : Addr} {fp : List Addr} {tn : Nat → Heap → Prop} {J : It} {W : Nat → Nat → Hp → Prop} {m0 : Nat} (hc : X.calm = true) (hN : X.N.Nodup) (ok : BlkOk X.N X.env.scope scope own)
    (hg : ∀ (s : Shared) (H : Hp) (C : Addr) (cl : List (Str × Addr)) (fp : List Addr), PG (X.blk s H scope (compEnvC scope cl C X.env) fp) tg g) (ht : ∀ (s : Shared) (H : Hp) (C : Addr) (cl : List (Str × Addr)) (fp : List Addr), PTs (X.blk s H scope (compEnvC scope cl C X.env) fp) ifs tt)
    (he : ∀ (s : Shared) (H : Hp) (C : Addr) (cl : List (Str × Addr)) (fp : List Addr), PE (X.blk s H scope (compEnvC scope cl C X.env) fp) elt te)
    (T : Turn X.prog X.w X.K tg J fp it tn) (I3 : Inv X pins σ H3 s3) (f3 : ∀ b ∈ fp, FpOk X pins H3 b ∧ b < s3.heap.objs.size) (st3 : tn 0 s3.heap) (w0 : W 0 m0 H3)
    (turn : ∀ i m H, W i m H → (J.stop i H ∧ Q (.ref D) H) ∨ (J.go i H ∧ ∃ N : Hp → Prop, (∀ H', N H' → ∃ m', m' < m ∧ W (i + 1) m' H') ∧ ∀ x H', J.yld i H x H' → turnS X.prog X.w g tt te D N (wipe σ (own.map (·.2))) (own.map (·.2)) x H')) :
    codeAny (model X.prog X.w) X.A (.compStart (.SetComp elt [⟨tg, iter, ifs, 0⟩] scope pos) 0 (.ref it) (.ref D) (compEnvC scope (cellsFrom (s3.heap.objs.size + 1) scope.names (cloFrom X.env.cells scope.names [])) s3.heap.objs.size X.env))
      (compPost (model X.prog X.w) X.A X.xe none (EP X pins σ Q) (.ref D) s3.heap.objs.size) { s3 with heap := pushCells (s3.heap.push { cls := .type "dict", data := .dict #[] }) scope.names } := by
  have I4 := block_start I3 ok hN f3
  have nfp : ∀ b ∈ fp, H3 b = none := fun b hb => (f3 b hb).1.1
  obtain ⟨ce, hce⟩ : ∃ ce, compEnvC scope (cellsFrom (s3.heap.objs.size + 1) scope.names (cloFrom X.env.cells scope.names [])) s3.heap.objs.size X.env = ce := ⟨_, rfl⟩
  have pg := hg s3 H3 s3.heap.objs.size (cellsFrom (s3.heap.objs.size + 1) scope.names (cloFrom X.env.cells scope.names [])) fp
  have pt := ht s3 H3 s3.heap.objs.size (cellsFrom (s3.heap.objs.size + 1) scope.names (cloFrom X.env.cells scope.names [])) fp
  have pe := he s3 H3 s3.heap.objs.size (cellsFrom (s3.heap.objs.size + 1) scope.names (cloFrom X.env.cells scope.names [])) fp
  rw [hce] at I4 pg pt pe ⊢
  have cL : ce.locals = s3.heap.objs.size := by rw [← hce]; rfl
  obtain ⟨s4, hs4⟩ : ∃ s4 : Shared, ({ s3 with heap := pushCells (s3.heap.push { cls := .type "dict", data := .dict #[] }) scope.names } : Shared) = s4 := ⟨_, rfl⟩
  rw [hs4] at I4 ⊢
  have st4 : tn 0 s4.heap := T.keep _ _ _ st3 fun b _ o e => by rw [← hs4]; exact pushCells_keeps _ _ _ _ (Heap.get?_push_of_some _ e)
  obtain ⟨Y, hY⟩ : ∃ Y, X.blk s3 H3 scope ce fp = Y := ⟨_, rfl⟩
  have stat : ∀ {σ' : L2.St} {H' : Hp} {s' : Shared}, Inv (X.blk s3 H3 scope ce fp) [] σ' H' s' → (∀ b ∈ fp, H' b = none) → ∀ b ∈ fp, FpOk (X.blk s3 H3 scope ce fp) [] H' b := fun I' hn b hb =>
    ⟨hn b hb, (I'.ok.exf b hb).1, I'.ok.exfs b hb, .inl hb, fun x c e => (I'.ok.exf b hb).2 x c e, fun p hp => absurd (show p ∈ ([] : List (Addr × Obj)) ++ [] from hp) (by simp)⟩
  have obj : ∀ {i : Nat} {s : Shared}, tn i s.heap → ∀ b ∈ fp, ∃ o, s.heap.get? b = some o := fun t b hb => (T.obj _ _ t b hb).elim fun o z => ⟨o, z.1⟩
  have loop : codeAny (model X.prog X.w) X.A (.compLoop (.SetComp elt [⟨tg, iter, ifs, 0⟩] scope pos) 0 (.ref it) (.ref D) ce) (compPost (model X.prog X.w) X.A X.xe none (EP X pins σ Q) (.ref D) s3.heap.objs.size) s4 := by
    refine PpSet.compLoopS_any (AtHead (X.blk s3 H3 scope ce fp) fp tn (wipe σ (own.map (·.2))) W) ?_ m0 ⟨0, H3, I4, st4, nfp, w0⟩
    rintro n s5 ⟨i, H5, I5, st5, n5, w5⟩
    rcases turn i n H5 w5 with ⟨stop, qq⟩ | ⟨go, N, hNx, step⟩
    · refine thnF (T.done (X.blk s3 H3 scope ce fp) rfl rfl rfl hc i [] s5 _ H5 (fun _ _ => False) I5 (stat I5 n5) st5 stop) fun r s6 ⟨hr, I6⟩ => ?_
      subst hr
      have I7 : Inv X pins σ H5 s6 := I3.call' (ch := fp) I6.os I6.base I6.hok I6.bare fun b hb => ⟨(f3 b hb).1.2.2.2.1, (f3 b hb).1.2.1, (f3 b hb).1.2.2.2.2.1, (f3 b hb).1.2.2.2.2.2⟩
      obtain ⟨m, hn, _⟩ := I6.loc
      have hn : s6.heap.Ns ce.locals m := hn
      have nC : H5 ce.locals = none := I6.free
      rw [cL] at hn nC
      obtain ⟨f0, f1, f2, f3, f4, f5⟩ := I3.fpOk (Nat.le_refl _) nC
      refine ⟨m, hn, fun h'' sb => ?_⟩
      exact ⟨.ref D, H5, I7.turned (t' := s6.toks) (fun b o hb e => (sb.2 b hb).trans e) f0 f1 f3 f4 f5, rfl, qq⟩
    · refine thnF (T.item (X.blk s3 H3 scope ce fp) rfl rfl rfl hc i [] s5 _ H5 (fun _ _ => False) I5 (stat I5 n5) st5 go) fun r s6 ⟨u, hr, h6⟩ => ?_
      subst hr
      refine thnF h6 fun _ s7 ⟨x, H7, I7, r7, y7, st7, n7⟩ => ?_
      refine thnF (pg.run _ s7 _ H7 x u _ (I7.pinned (stat I7 n7) (T.obj _ _ st7)) r7 (step x H7 y7)) fun _ s8 ⟨σ8, H8, I8, hw8, q8⟩ => ?_
      refine thnF (pt.run _ s8 σ8 H8 _ I8 q8) fun b s9 ⟨H9, I9, q9⟩ => ?_
      have fin : ∀ {s' : Shared} {H' : Hp}, Inv (X.blk s3 H3 scope ce fp) ([] ++ pinsAt fp s7.heap) σ8 H' s' → N H' → ∃ m, m < n ∧ AtHead (X.blk s3 H3 scope ce fp) fp tn (wipe σ (own.map (·.2))) W m s' := fun I' nx => by
        obtain ⟨m', hm, w'⟩ := hNx _ nx
        exact back_head T.keep (obj st7) st7 hw8 I' hm w'
      cases b with
      | false =>
        rw [if_neg Bool.false_ne_true] at q9 ⊢
        exact fin I9 q9
      | true =>
        rw [if_pos rfl] at q9 ⊢
        refine thnF (pe.run _ s9 σ8 H9 _ I9 q9) fun z s10 ⟨yv, H10, I10, r10, into⟩ => ?_
        exact intoS_ok (X := X.blk s3 H3 scope ce fp) I10 r10 into fun v s11 H11 I11 nx => fin I11 nx
  exact PpSet.codeAny_compStart_set loop (T.self X.A 0 _ _ _ st4 loop)
theorem pe_sk (hc : X.calm = true) (hN : X.N.Nodup) (hi : PI X tg iter wi) (ok : BlkOk X.N X.env.scope scope own)
    (hg : ∀ (s : Shared) (H : Hp) (C : Addr) (cl : List (Str × Addr)) (fp : List Addr), PG (X.blk s H scope (compEnvC scope cl C X.env) fp) tg g) (ht : ∀ (s : Shared) (H : Hp) (C : Addr) (cl : List (Str × Addr)) (fp : List Addr), PTs (X.blk s H scope (compEnvC scope cl C X.env) fp) ifs tt)
    (he : ∀ (s : Shared) (H : Hp) (C : Addr) (cl : List (Str × Addr)) (fp : List Addr), PE (X.blk s H scope (compEnvC scope cl C X.env) fp) elt te) (hs : ∀ x, foldedSetIterable iter X.env x = pure x) :
    PE X (.SetComp elt [⟨tg, iter, ifs, 0⟩] scope pos) (tSk X.prog X.w wi g tt te (own.map (·.2))) := by
  refine ⟨fun pins s σ H Q I h => ?_⟩
  rw [PpSet.eval_SetComp]
  have free : ∀ y ∈ scope.names, y.2 = .free → ∃ c, X.env.cells.lookup y.1 = some c := fun y hy e => (ok.free y hy e).elim (fun k => I.ok.has _ (.inl k)) fun k => I.ok.has _ (.inr k)
  refine wpAny_comprehension_free (use := none) rfl hs (closure_ok free) ok.kind (fun y hy e => by rw [ok.uniq y hy, e]) (thn (hi.run pins s σ H _ I h) fun xv s1 hx => thn hx fun itv s2 h2 => ?_)
  obtain ⟨it, fp, tn, J, H2, rfl, I2, T, st2, f2, q⟩ := h2
  refine PpSet.newSet_ok (newEnv_comp ?_)
  -- the new set D
  obtain ⟨D, hD⟩ : ∃ D, s2.heap.objs.size = D := ⟨_, rfl⟩
  rw [hD]
  obtain ⟨W, ⟨m0, w0⟩, turn⟩ := q D (I2.hok.fresh (Nat.le_of_eq hD))
  obtain ⟨s3, hs3⟩ : ∃ s3 : Shared, s3 = { s2 with heap := s2.heap.push (noSet (!X.w.params.followText "set-order")) } := ⟨_, rfl⟩
  obtain ⟨H3, hH3⟩ : ∃ H3, H3 = upd H2 D (SetK X.prog X.w D (fun _ => false) 0) := ⟨_, rfl⟩
  have h3 : s3.heap = s2.heap.push (noSet (!X.w.params.followText "set-order")) := by rw [hs3]
  have I3 : Inv X pins σ H3 s3 := by
    rw [hs3, hH3]
    refine I2.laid (t' := s2.toks) (fun b o e => Heap.get?_push_of_some _ e) (Nat.le_of_eq hD) ?_
    rw [← hD]
    exact setK_new noSetK
  rw [← hH3] at w0
  have f3 : ∀ b ∈ fp, FpOk X pins H3 b ∧ b < s3.heap.objs.size := fun b hb => by
    obtain ⟨o, e, _⟩ := T.obj _ _ st2 b hb
    have lt := Heap.lt_size e
    refine ⟨⟨?_, (f2 b hb).2⟩, by rw [h3, Heap.size_push]; exact Nat.lt_succ_of_lt lt⟩
    rw [hH3, upd_ne (by rw [← hD]; exact Nat.ne_of_lt lt)]
    exact (f2 b hb).1
  have st3 : tn 0 s3.heap := T.keep _ _ _ st2 fun b _ o e => by rw [h3]; exact Heap.get?_push_of_some _ e
  show codeAny _ _ (.compStart (.SetComp elt [⟨tg, iter, ifs, 0⟩] scope pos) 0 (.ref it) (.ref D) (compEnvC scope _ _ X.env)) (compPost _ _ _ _ _ _ _) _
  have fin := sk_run (pos := pos) (iter := iter) hc hN ok hg ht he T I3 f3 st3 w0 turn
  rw [hs3] at fin
  exact fin
/-- the set over a walk -/
theorem sk_it {P : Program} {w : World} {J : It} {n : Nat} {G : Hp → Prop} {Y : Nat → Hp → V → Hp → Prop} (wk : Walk J n G Y) {vs : List Nat} {σ : L2.St} {H1 : Hp} {D : Addr} {Qd : Hp → Prop} (Pv : Nat → Hp → Prop) (h0 : Pv 0 (upd H1 D (SetK P w D (fun _ => false) 0))) (hG : ∀ i H, i ≤ n → Pv i H → G H)
    (hs : ∀ i x H H', i < n → Pv i H → Y i H x H' → turnS P w g tt te D (Pv (i + 1)) (wipe σ vs) vs x H') (hd : ∀ H, Pv n H → Qd H) :
    ∃ W : Nat → Nat → Hp → Prop, (∃ m, W 0 m (upd H1 D (SetK P w D (fun _ => false) 0))) ∧ ∀ i m H, W i m H →
      (J.stop i H ∧ Qd H) ∨ (J.go i H ∧ ∃ N : Hp → Prop, (∀ H', N H' → ∃ m', m' < m ∧ W (i + 1) m' H') ∧ ∀ x H', J.yld i H x H' → turnS P w g tt te D N (wipe σ vs) vs x H') := by
  refine ⟨fun i m H => m = n - i ∧ i ≤ n ∧ Pv i H, ⟨n, rfl, Nat.zero_le _, h0⟩, ?_⟩
  rintro i m H ⟨rfl, hi, p⟩
  rcases Nat.lt_or_ge i n with hlt | hge
  · exact .inr ⟨wk.goes i H hlt (hG i H hi p), Pv (i + 1), fun H' p' => ⟨n - (i + 1), by omega, rfl, hlt, p'⟩, fun x H' y => hs i x H H' hlt p (wk.yields i H x H' hlt (hG i H hi p) y)⟩
  · have e : i = n := Nat.le_antisymm hi hge
    subst e
    exact .inl ⟨wk.stops H (hG i H hi p), hd H p⟩
theorem keysO_app : ∀ {as bs : List PyData} {ks : List Key}, keysO (as ++ bs) = some ks → ∃ ka kb, keysO as = some ka ∧ keysO bs = some kb ∧ ks = ka ++ kb
  | [], bs, ks, h => ⟨[], ks, rfl, h, rfl⟩
  | a :: as, bs, ks, h => by
    have h : (match keyO a, keysO (as ++ bs) with
      | some k, some ks => some (k :: ks)
      | _, _ => none) = some ks := h
    cases q : keyO a with
    | none =>
      rw [q] at h
      cases h
    | some k =>
      cases q2 : keysO (as ++ bs) with
      | none =>
        rw [q, q2] at h
        cases h
      | some ks2 =>
        rw [q, q2] at h
        have e := Option.some.inj h
        subst e
        obtain ⟨ka, kb, h1, h2, rfl⟩ := keysO_app q2
        refine ⟨k :: ka, kb, ?_, h2, rfl⟩
        show (match keyO a, keysO as with
          | some k, some ks => some (k :: ks)
          | _, _ => none) = _
        rw [q, h1]
theorem keysO_len : ∀ {as : List PyData} {ks : List Key}, keysO as = some ks → ks.length = as.length
  | [], ks, h => by
    have e := Option.some.inj h
    subst e
    rfl
  | a :: as, ks, h => by
    have h : (match keyO a, keysO as with
      | some k, some ks => some (k :: ks)
      | _, _ => none) = some ks := h
    cases q : keyO a with
    | none =>
      rw [q] at h
      cases h
    | some k =>
      cases q2 : keysO as with
      | none =>
        rw [q, q2] at h
        cases h
      | some ks2 =>
        rw [q, q2] at h
        have e := Option.some.inj h
        subst e
        simp [keysO_len q2]
theorem cntK_le (ks : List Key) : cntK ks ≤ ks.length := by
  have := metK_len ks []
  unfold cntK
  simpa using this
theorem cntK_snoc (ks : List Key) (k : Key) : cntK (ks ++ [k]) = if decide (k ∈ metK [] ks) = true then cntK ks else cntK ks + 1 := by
  unfold cntK
  rw [metK_snoc]
  by_cases e : k ∈ metK [] ks
  · simp [e]
  · simp [e]
theorem setK_snoc {P : Program} {w : World} {a : Addr} (ks : List Key) (k : Key) : SetK P w a (fun j => (decide (j ∈ metK [] ks)) || decide (j = k)) (if decide (k ∈ metK [] ks) = true then cntK ks else cntK ks + 1) = SetK P w a (fun j => decide (j ∈ metK [] (ks ++ [k]))) (cntK (ks ++ [k])) := by
  rw [cntK_snoc]
  congr 1
  funext j
  rw [metK_snoc]
  by_cases e : k ∈ metK [] ks
  · rw [if_pos e]
    by_cases ej : j = k
    · subst ej
      simp [e]
    · simp [ej]
  · rw [if_neg e]
    simp [List.mem_append]
def lenScE (own : List Nat) (t : Tg) (fl : M (List PyData)) (c : M Bool) (f : M PyData) : M PyData := bnd (lcE own t fl c f) fun ds => ofO (cntO ds)
variable {K : PySem.W.Frag} {W : XK} {σ : L2.St} {H : Hp} {fl : M (List PyData)} {p : M Bool} {f : M PyData} {t : Tg}
/-- what len of the set then tells -/
def lenK (P : Program) (w : World) (te : TE) : TE := fun σ H Q => te σ H fun x H1 => ∃ D S n, [x] = [V.ref D] ∧ H1 D = some (SetK P w D S n) ∧ n < 4000 ∧ Q (.int n) H1
theorem tE_lenSc {P : Program} {w : World} {W' : XK} {own : List Nat} {Q : VK} (h : tE K W (lenScE own t fl p f) σ H Q) : lenK P w (tSk P w (tI K W t fl) (tG K own t) (tT K W' p) (tE K W' f) own) σ H Q := by
  obtain ⟨ow, E, rr, z, hz, k⟩ := h
  show tI K W t fl σ H _
  have hz2 : bnd fl (fun ds E => match lcD own t p f ds (wipeE E own) with
    | some (ys, E') => (match cntO ys with
      | some n => some (.ok n E')
      | none => none)
    | none => none) E = some z := by
    rw [← hz]
    unfold lenScE lcE bnd
    cases q : fl E with
    | none => rfl
    | some r =>
      cases r with
      | ex c fs E1 => rfl
      | ok ds E1 =>
        dsimp only
        cases q2 : lcD own t p f ds (wipeE E1 own) with
        | none => rfl
        | some w =>
          obtain ⟨ys, E'⟩ := w
          dsimp only
          unfold ofO
          cases cntO ys <;> rfl
  refine tI_bnd rr hz2 (fun c fs E1 e => by subst e; exact k) fun ds E1 h1 ow1 H1 J R1 S1 wk D nD => ?_
  cases hl : lcD own t p f ds (wipeE E1 own) with
  | none =>
    simp only [hl] at h1
    cases h1
  | some w0 =>
    obtain ⟨ys, E'⟩ := w0
    simp only [hl] at h1
    cases hcn : cntO ys with
    | none =>
      simp only [hcn] at h1
      cases h1
    | some num =>
    simp only [hcn] at h1
    have ez := Option.some.inj h1
    subst ez
    unfold cntO at hcn
    cases hky : keysO ys with
    | none =>
      simp only [hky] at hcn
      cases hcn
    | some kys =>
    simp only [hky] at hcn
    split at hcn
    rotate_left
    · cases hcn
    rename_i hmany
    have en := Option.some.inj hcn
    subst en
    have few := wk.few
    obtain ⟨G, Y, wlk, g1, y1⟩ := wk.ex
    refine sk_it wlk (fun i H' => ∃ ow' E2 acc rest ks, R K ow' E2 (wipe σ own) H' ∧ ow' D = some 0 ∧ H' D = some (SetK P w D (fun j => decide (j ∈ metK [] ks)) (cntK ks)) ∧ keysO acc = some ks ∧ Stp ow1 (less ow' D) H1 (del H' D) ∧ wipeE E2 own = E2 ∧ lcD own t p f (ds.drop i) E2 = some (rest, E') ∧ acc ++ rest = ys)
      ⟨give ow1 D 0, wipeE E1 own, [], ys, [], (R1.wiped own).gives nD, give_at, upd_same, rfl, ?_, wipeE_wipeE _ _, hl, rfl⟩ ?_ ?_ ?_
    · have e1 : less (give ow1 D 0) D = ow1 := by
        funext b
        by_cases e : b = D
        · subst e
          rw [less_at, R1.fresh nD]
        · rw [less_ne e, give_ne e]
      have e2 : del (upd H1 D (SetK P w D (fun _ => false) 0)) D = H1 := by
        funext b
        by_cases e : b = D
        · subst e
          rw [del_same, nD]
        · rw [del_ne e, upd_ne e]
      rw [e1, e2]
      exact Stp.refl _ _
    · rintro i H' hi ⟨ow', E2, acc, rest, ks, r', oD, hD, hq, s', ew, hc, hy⟩
      refine g1 ow' H' ?_
      have := s'.same
      rw [frz_less (by rw [oD]; simp)] at this
      exact this
    · rintro i x H2 H3 hi ⟨ow2, E2, acc, rest, ks, r2, oD, hD, hq, s2, ew, hc, hy⟩ yy
      have fr : Same (frz ow1 H1) (frz ow2 H2) := by
        have := s2.same
        rw [frz_less (by rw [oD]; simp)] at this
        exact this
      obtain ⟨d, hd, sm, hqx⟩ := y1 i ow2 H2 x H3 hi fr r2.tr yy
      have dr : ds.drop i = d :: ds.drop (i + 1) := by
        rw [List.drop_eq_getElem_cons hi]
        congr 1
        rw [List.getElem?_eq_getElem hi] at hd
        exact Option.some.inj hd
      rw [dr] at hc
      unfold lcD at hc
      have r3 : R K ow2 (wipeE E2 own) (wipe σ own) H3 := by
        have := (r2.grow sm).wiped own
        rw [wipe_wipe] at this
        exact this
      have hD3 := sm _ _ hD
      have S3 : Stp ow2 ow2 H2 H3 := Stp.grow sm
      cases q : setT t d (wipeE E2 own) with
      | none =>
        simp only [q] at hc
        cases hc
      | some E3 =>
        simp only [q] at hc
        refine ⟨ow2, wipeE E2 own, r3, d, E3, hqx, q, fun σ4 r4 w4 => ⟨w4.trans (wipe_wipe σ own), ?_⟩⟩
        cases q2 : p E3 with
        | none =>
          simp only [q2] at hc
          cases hc
        | some z2 =>
          cases z2 with
          | ex c fs E4 =>
            simp only [q2] at hc
            cases hc
          | ok b E4 =>
            refine ⟨ow2, E3, r4, _, q2, fun ow5 H5 r5 s5 => ?_⟩
            have w4' : wipe σ4 own = wipe σ own := w4.trans (wipe_wipe σ own)
            have st5 : Stp ow2 ow5 H2 H5 := S3.trans s5
            obtain ⟨hD5, oD5⟩ := s5.out D _ hD3 oD
            cases b with
            | false =>
              simp only [q2] at hc
              exact ⟨ow5, wipeE E4 own, acc, rest, ks, r5.unwipe (w4'.trans (wipe_wipe σ own).symm), oD5, hD5, hq, s2.trans st5.less, wipeE_wipeE _ _, hc, hy⟩
            | true =>
              simp only [q2] at hc
              refine ifT ?_
              cases q3 : f E4 with
              | none =>
                simp only [q3] at hc
                cases hc
              | some z3 =>
                cases z3 with
                | ex c fs E5 =>
                  simp only [q3] at hc
                  cases hc
                | ok y E5 =>
                  simp only [q3] at hc
                  cases q4 : lcD own t p f (ds.drop (i + 1)) (wipeE E5 own) with
                  | none =>
                    simp only [q4] at hc
                    cases hc
                  | some z4 =>
                    obtain ⟨ys2, E6⟩ := z4
                    simp only [q4] at hc
                    have ec := Option.some.inj hc
                    cases ec
                    refine ⟨ow5, E4, r5, _, q3, fun ow6 H6 v6 r6 s6 q6 => ?_⟩
                    obtain ⟨hD6, oD6⟩ := s6.out D _ hD5 oD5
                    have st6 : Stp ow2 ow6 H2 H6 := st5.trans s6
                    -- y is a key
                    have hy2 : (acc ++ [y]) ++ ys2 = ys := by rw [List.append_assoc]; exact hy
                    rw [← hy2] at hky
                    obtain ⟨k1, k2, hk1, hk2, ek⟩ := keysO_app hky
                    obtain ⟨k3, k4, hk3, hk4, ek2⟩ := keysO_app hk1
                    rw [hq] at hk3
                    have e3 := Option.some.inj hk3
                    subst e3
                    have hk4' : (match keyO y, keysO [] with
                      | some k, some ks => some (k :: ks)
                      | _, _ => none) = some k4 := hk4
                    cases qk : keyO y with
                    | none =>
                      rw [qk] at hk4'
                      cases hk4'
                    | some ky =>
                      rw [qk] at hk4'
                      have e4 := Option.some.inj hk4'
                      subst e4
                      have lk : ks.length + 1 ≤ kys.length := by
                        rw [ek, ek2]
                        simp
                      have cl := cntK_le ks
                      refine ⟨ky, _, _, key_dq q6 qk, hD6, by unfold scanBound; omega, ow6, wipeE E5 own, acc ++ [y], ys2, ks ++ [ky], ?_, oD6, ?_, ?_, ?_, wipeE_wipeE _ _, q4, hy2⟩
                      · exact (r6.unwipe (w4'.trans (wipe_wipe σ own).symm)).swap oD6
                      · rw [setK_snoc]
                        exact upd_same
                      · rw [hk1, ek2]
                      · rw [del_upd]
                        exact s2.trans st6.less
    · rintro H2 ⟨ow2, E2, acc, rest, ks, r2, oD, hD, hq, s2, ew, hc, hy⟩
      rw [List.drop_length] at hc
      have ec := Option.some.inj hc
      cases ec
      rw [List.append_nil] at hy
      subst hy
      rw [hky] at hq
      have eq := Option.some.inj hq
      subst eq
      have cl := cntK_le kys
      refine ⟨D, _, _, rfl, hD, by omega, ?_⟩
      have z := (r2.less oD).unwipe (wipe_wipe σ own)
      rw [ew] at z
      have nD2 : del H2 D D = none := del_same
      have fin := k (less ow2 D) (upd (del H2 D) D (SetK P w D (fun j => decide (j ∈ metK [] kys)) (cntK kys))) (.int (cntK kys : Nat)) (z.new nD2) ((S1.trans s2).trans (Stp.new nD2)) (.int _)
      rw [upd_del hD] at fin
      exact fin
theorem call_lenK : CallR X (.builtin "len") (fun xs H Q => ∃ D S n, xs = [.ref D] ∧ H D = some (SetK X.prog X.w D S n) ∧ n < 4000 ∧ Q (.int n) H) := by
  intro pins s σ H xs us Q I r h
  obtain ⟨D, S, n, rfl, hD, hn, q⟩ := h
  rw [Vals.ref1 r]
  obtain ⟨o, es, ep, t, ho, hex, hd, _, _, _, hf, he⟩ := setK_get I hD
  exact call_len_set ho hex hd hf (by rw [he] <;> omega) ⟨.int n, H, I.tok _, ⟨_, by rw [he]⟩, q⟩
theorem de_lenSc {W' : XK} {x : Str} {q : Pos} {ppos : Pos} (hm : X.mg "len" = none) (hc : X.calm = true) (hN : X.N.Nodup) (hi : PI X tg iter (tI X.K W t fl)) (ok : BlkOk X.N X.env.scope scope own)
    (hg : ∀ (s : Shared) (H : Hp) (C : Addr) (cl : List (Str × Addr)) (fp : List Addr), PG (X.blk s H scope (compEnvC scope cl C X.env) fp) tg (tG X.K (own.map (·.2)) t)) (ht : ∀ (s : Shared) (H : Hp) (C : Addr) (cl : List (Str × Addr)) (fp : List Addr), PTs (X.blk s H scope (compEnvC scope cl C X.env) fp) ifs (tT X.K W' p))
    (he : ∀ (s : Shared) (H : Hp) (C : Addr) (cl : List (Str × Addr)) (fp : List Addr), PE (X.blk s H scope (compEnvC scope cl C X.env) fp) elt (tE X.K W' f)) (hs : ∀ x, foldedSetIterable iter X.env x = pure x := by intro _; rfl)
    (ex : x = "len" := by rfl) (hgl : Gl X x := by rfl)
    (na : starEach [.SetComp elt [⟨tg, iter, ifs, 0⟩] scope q] X.env = (false, eval (.SetComp elt [⟨tg, iter, ifs, 0⟩] scope q) X.env) :: starEach [] X.env := by rfl) (hpl : (backTo pos (starEach [] X.env)).any (·.1) = false := by rfl) : PE X (.Call (.Name x ppos) [.SetComp elt [⟨tg, iter, ifs, 0⟩] scope q] [] pos) (tE X.K W (lenScE (own.map (·.2)) t fl p f)) := by
  subst ex
  refine PE.imp (pe_callB call_lenK hgl hm (by decide +kernel) (pa_cons (pe_sk hc hN hi ok hg ht he hs) pa_nil na) (by decide) (by decide) na hpl) fun σ H Q h => tE_lenSc (W' := W') h
end
end Sa

set_option maxHeartbeats 4000000
/-! A list comprehension whose test is known from the very state in which it starts, and tells false for each item. -/
namespace Sa
open PySem PySem.Spec PyProof.Rows L2 He NdefX RZ
section
variable {X : Cx} {elt tg iter : Expr} {ifs : List Expr} {scope : Scope} {own : List (Str × Nat)} {pos : Pos} {wi : TI} {g : TG}
/-- a turn: the test tells false -/
def turnN (g : TG) (tt : TT) (N : Hp → Prop) (τ : L2.St) (vs : List Nat) : V → Hp → Prop := fun x H => g x τ H fun σ H => wipe σ vs = τ ∧ tt σ H fun b H => b = false ∧ N H
def stepN (J : It) (W : Nat → Nat → Hp → Prop) (g : TG) (tt : TT) (τ : L2.St) (vs : List Nat) (Z : Hp → Prop) : Prop := ∀ i m H, W i m H →
  (J.stop i H ∧ Z H) ∨ (J.go i H ∧ ∃ N : Hp → Prop, (∀ H', N H' → ∃ m', m' < m ∧ W (i + 1) m' H') ∧ ∀ x H', J.yld i H x H' → turnN g tt N τ vs x H')
def tLcN (wi : TI) (g : TG) (tt : L2.St → TT) (vs : List Nat) : TE := fun σ H Q => wi σ H fun J H1 => ∀ D, H1 D = none → ∃ W : Nat → Nat → Hp → Prop, (∃ m, W 0 m (upd H1 D (.lst []))) ∧ stepN J W g (tt σ) (wipe σ vs) vs (Q (.ref D))
theorem lcN_run {pins : List (Addr × Obj)} {σ : L2.St} {H3 : Hp} {s3 : Shared} {Q : VK} {it D : Addr} {fp : List Addr} {tn : Nat → Heap → Prop} {J : It} {W : Nat → Nat → Hp → Prop} {m0 : Nat} {tt : TT} (hc : X.calm = true) (hN : X.N.Nodup) (ok : BlkOk X.N X.env.scope scope own)
    (gs : ∀ (C : Addr) (cl : List (Str × Addr)), PG (X.blk s3 H3 scope (compEnvC scope cl C X.env) fp) tg g) (ts : ∀ (C : Addr) (cl : List (Str × Addr)), PTs (X.blk s3 H3 scope (compEnvC scope cl C X.env) fp) ifs tt)
    (T : Turn X.prog X.w X.K tg J fp it tn) (I3 : Inv X pins σ H3 s3) (f3 : ∀ b ∈ fp, FpOk X pins H3 b ∧ b < s3.heap.objs.size) (st3 : tn 0 s3.heap) (w0 : W 0 m0 H3)
    (turn : stepN J W g tt (wipe σ (own.map (·.2))) (own.map (·.2)) (Q (.ref D))) :
    codeAny (model X.prog X.w) X.A (.compStart (.ListComp elt [⟨tg, iter, ifs, 0⟩] scope pos) 0 (.ref it) (.ref D) (compEnvC scope (cellsFrom (s3.heap.objs.size + 1) scope.names (cloFrom X.env.cells scope.names [])) s3.heap.objs.size X.env))
      (compPost (model X.prog X.w) X.A X.xe none (EP X pins σ Q) (.ref D) s3.heap.objs.size) { s3 with heap := pushCells (s3.heap.push { cls := .type "dict", data := .dict #[] }) scope.names } := by
  have I4 := block_start I3 ok hN f3
  have nfp : ∀ b ∈ fp, H3 b = none := fun b hb => (f3 b hb).1.1
  obtain ⟨ce, hce⟩ : ∃ ce, compEnvC scope (cellsFrom (s3.heap.objs.size + 1) scope.names (cloFrom X.env.cells scope.names [])) s3.heap.objs.size X.env = ce := ⟨_, rfl⟩
  have pg := gs s3.heap.objs.size (cellsFrom (s3.heap.objs.size + 1) scope.names (cloFrom X.env.cells scope.names []))
  have pt := ts s3.heap.objs.size (cellsFrom (s3.heap.objs.size + 1) scope.names (cloFrom X.env.cells scope.names []))
  rw [hce] at I4 pg pt ⊢
  have cL : ce.locals = s3.heap.objs.size := by rw [← hce]; rfl
  obtain ⟨s4, hs4⟩ : ∃ s4 : Shared, ({ s3 with heap := pushCells (s3.heap.push { cls := .type "dict", data := .dict #[] }) scope.names } : Shared) = s4 := ⟨_, rfl⟩
  rw [hs4] at I4 ⊢
  have st4 : tn 0 s4.heap := T.keep _ _ _ st3 fun b _ o e => by rw [← hs4]; exact pushCells_keeps _ _ _ _ (Heap.get?_push_of_some _ e)
  have stat : ∀ {σ' : L2.St} {H' : Hp} {s' : Shared}, Inv (X.blk s3 H3 scope ce fp) [] σ' H' s' → (∀ b ∈ fp, H' b = none) → ∀ b ∈ fp, FpOk (X.blk s3 H3 scope ce fp) [] H' b := fun I' hn b hb =>
    ⟨hn b hb, (I'.ok.exf b hb).1, I'.ok.exfs b hb, .inl hb, fun x c e => (I'.ok.exf b hb).2 x c e, fun p hp => absurd (show p ∈ ([] : List (Addr × Obj)) ++ [] from hp) (by simp)⟩
  have obj : ∀ {i : Nat} {s : Shared}, tn i s.heap → ∀ b ∈ fp, ∃ o, s.heap.get? b = some o := fun t b hb => (T.obj _ _ t b hb).elim fun o z => ⟨o, z.1⟩
  have loop : codeAny (model X.prog X.w) X.A (.compLoop (.ListComp elt [⟨tg, iter, ifs, 0⟩] scope pos) 0 (.ref it) (.ref D) ce) (compPost (model X.prog X.w) X.A X.xe none (EP X pins σ Q) (.ref D) s3.heap.objs.size) s4 := by
    refine compLoop_any (AtHead (X.blk s3 H3 scope ce fp) fp tn (wipe σ (own.map (·.2))) W) ?_ m0 ⟨0, H3, I4, st4, nfp, w0⟩
    rintro n s5 ⟨i, H5, I5, st5, n5, w5⟩
    rcases turn i n H5 w5 with ⟨stop, qq⟩ | ⟨go, N, hNx, step⟩
    · refine thnF (T.done (X.blk s3 H3 scope ce fp) rfl rfl rfl hc i [] s5 _ H5 (fun _ _ => False) I5 (stat I5 n5) st5 stop) fun r s6 ⟨hr, I6⟩ => ?_
      subst hr
      have I7 : Inv X pins σ H5 s6 := I3.call' (ch := fp) I6.os I6.base I6.hok I6.bare fun b hb => ⟨(f3 b hb).1.2.2.2.1, (f3 b hb).1.2.1, (f3 b hb).1.2.2.2.2.1, (f3 b hb).1.2.2.2.2.2⟩
      obtain ⟨m, hn, _⟩ := I6.loc
      have hn : s6.heap.Ns ce.locals m := hn
      have nC : H5 ce.locals = none := I6.free
      rw [cL] at hn nC
      obtain ⟨f0, f1, f2, f3, f4, f5⟩ := I3.fpOk (Nat.le_refl _) nC
      refine ⟨m, hn, fun h'' sb => ?_⟩
      exact ⟨.ref D, H5, I7.turned (t' := s6.toks) (fun b o hb e => (sb.2 b hb).trans e) f0 f1 f3 f4 f5, rfl, qq⟩
    · refine thnF (T.item (X.blk s3 H3 scope ce fp) rfl rfl rfl hc i [] s5 _ H5 (fun _ _ => False) I5 (stat I5 n5) st5 go) fun r s6 ⟨u, hr, h6⟩ => ?_
      subst hr
      refine thnF h6 fun _ s7 ⟨x, H7, I7, r7, y7, st7, n7⟩ => ?_
      refine thnF (pg.run _ s7 _ H7 x u _ (I7.pinned (stat I7 n7) (T.obj _ _ st7)) r7 (step x H7 y7)) fun _ s8 ⟨σ8, H8, I8, hw8, q8⟩ => ?_
      refine thnF (pt.run _ s8 σ8 H8 _ I8 q8) fun b s9 ⟨H9, I9, q9, n9⟩ => ?_
      subst q9
      rw [if_neg Bool.false_ne_true]
      obtain ⟨m', hm, w'⟩ := hNx _ n9
      exact back_head T.keep (obj st7) st7 hw8 I9 hm w'
  exact codeAny_compStart_list loop (T.self X.A 0 _ _ _ st4 loop)
/-- as a value; the test is told of the state in which the block starts -/
theorem pe_lcN {tt : L2.St → TT} (hc : X.calm = true) (hN : X.N.Nodup) (hi : PI X tg iter wi) (ok : BlkOk X.N X.env.scope scope own)
    (gs : ∀ (s : Shared) (H : Hp) (fp : List Addr) (C : Addr) (cl : List (Str × Addr)), PG (X.blk s H scope (compEnvC scope cl C X.env) fp) tg g)
    (ts : ∀ (pins : List (Addr × Obj)) (s : Shared) (σ : L2.St) (H : Hp) (fp : List Addr), Inv X pins σ H s → (∀ b ∈ fp, FpOk X pins H b) → ∀ (C : Addr) (cl : List (Str × Addr)), PTs (X.blk s H scope (compEnvC scope cl C X.env) fp) ifs (tt σ))
    (hs : ∀ x, foldedSetIterable iter X.env x = pure x := by intro _; rfl) :
    PE X (.ListComp elt [⟨tg, iter, ifs, 0⟩] scope pos) (tLcN wi g tt (own.map (·.2))) := by
  refine ⟨fun pins s σ H Q I h => ?_⟩
  rw [eval_ListComp]
  have free : ∀ y ∈ scope.names, y.2 = .free → ∃ c, X.env.cells.lookup y.1 = some c := fun y hy e => (ok.free y hy e).elim (fun k => I.ok.has _ (.inl k)) fun k => I.ok.has _ (.inr k)
  refine wpAny_comprehension_free (use := none) rfl hs (closure_ok free) ok.kind (fun y hy e => by rw [ok.uniq y hy, e]) (thn (hi.run pins s σ H _ I h) fun xv s1 hx => thn hx fun itv s2 h2 => ?_)
  obtain ⟨it, fp, tn, J, H2, rfl, I2, T, st2, f2, q⟩ := h2
  refine wpAny_newObj_type (newEnv_comp ?_) (by show 0 ≤ sizeLine; decide)
  -- the new list D
  obtain ⟨D, hD⟩ : ∃ D, s2.heap.objs.size = D := ⟨_, rfl⟩
  rw [hD]
  obtain ⟨W, ⟨m0, w0⟩, turn⟩ := q D (I2.hok.fresh (Nat.le_of_eq hD))
  obtain ⟨s3, hs3⟩ : ∃ s3 : Shared, s3 = { s2 with heap := s2.heap.push { cls := .type "list", data := .seq ([] : List Value).toArray } } := ⟨_, rfl⟩
  obtain ⟨H3, hH3⟩ : ∃ H3, H3 = upd H2 D (.lst []) := ⟨_, rfl⟩
  have h3 : s3.heap = s2.heap.push { cls := .type "list", data := .seq ([] : List Value).toArray } := by rw [hs3]
  have I3 : Inv X pins σ H3 s3 := by
    rw [hs3, hH3]
    refine I2.laid (t' := s2.toks) (fun b o e => Heap.get?_push_of_some _ e) (Nat.le_of_eq hD) ⟨Nat.zero_le _, [], 0, .nil, ?_⟩
    rw [← hD]
    exact Heap.get?_push_size _ rfl
  rw [← hH3] at w0
  have f3 : ∀ b ∈ fp, FpOk X pins H3 b ∧ b < s3.heap.objs.size := fun b hb => by
    obtain ⟨o, e, _⟩ := T.obj _ _ st2 b hb
    have lt := Heap.lt_size e
    refine ⟨⟨?_, (f2 b hb).2⟩, by rw [h3, Heap.size_push]; exact Nat.lt_succ_of_lt lt⟩
    rw [hH3, upd_ne (by rw [← hD]; exact Nat.ne_of_lt lt)]
    exact (f2 b hb).1
  have st3 : tn 0 s3.heap := T.keep _ _ _ st2 fun b _ o e => by rw [h3]; exact Heap.get?_push_of_some _ e
  show codeAny _ _ (.compStart (.ListComp elt [⟨tg, iter, ifs, 0⟩] scope pos) 0 (.ref it) (.ref D) (compEnvC scope _ _ X.env)) (compPost _ _ _ _ _ _ _) _
  have fin := lcN_run (elt := elt) (pos := pos) (iter := iter) hc hN ok (gs s3 H3 fp) (ts pins s3 σ H3 fp I3 fun b hb => (f3 b hb).1) T I3 f3 st3 w0 turn
  rw [hs3] at fin
  exact fin
end
end Sa

set_option maxHeartbeats 4000000
/-! A tracked lambda called in another def, and that def called from a block. -/
namespace Sa
open PySem PySem.Spec PyProof.Rows L2 He NdefX RZ
/-- what is known of a lambda of the def X, at any state -/
structure Lam (X : Cx) (k : Nat) where
  params : Arguments
  body : Expr
  scope : Scope
  tb : XK → TE
  L : LamX.LamS X.env.scope scope
  defs : ∀ env, defaultsOf params env = ([], [])
  binds : ∀ (q : Str) (cl : List (Str × Addr)) (pm cv ctv : Value), bindArgs (PySem.W.kla_fn "<lambda>" q params body scope cl pm cv ctv) ⟨[], []⟩ = pure []
  run : ∀ (A : Around) (outer : List Env) (s : Shared) (H : Hp) (E : XK) (f c' : Addr), Room k (A.deeper (LamX.lamEnv X scope s.heap.objs.size f c')) → PE (LamX.lamCx X A outer s H E scope f c') body (tb E)
section
variable {X : Cx} {k : Nat}
def Lam.obj (D : Lam X k) (f c' : Addr) : HO := LamO (X.env.qual ++ "<lambda>") D.params D.body D.scope (cloFrom X.env.cells D.scope.names []) f c'
/-- it is made -/
theorem pe_lamD (D : Lam X k) {c P : Addr} {pos : Pos} (TB : LamX.TabB X.base X.mg c P) (hcode : X.env.code = .ref c) : PE X (.Lambda D.params D.body D.scope pos) (tLam P (X.env.qual ++ "<lambda>") D.params D.body D.scope (cloFrom X.env.cells D.scope.names [])) := pe_lam TB hcode (D.defs _) D.L
/-- a lambda that calls a def of data with two captured names -/
def noArgs : Arguments := { posonlyargs := [], args := [], vararg := none, kwonlyargs := [], kw_defaults := [], kwarg := none, defaults := [] }
def lamOf {m : List PyData → Option FR} {x a b : Str} {kx : Nat} {ps : List Str} (i1 i2 : Nat) (C : Cal X.prog X.w X.K X.mg X.base x kx ps (spF X.K m)) (hk : kx ≤ k) (p p1 p2 p3 : Pos) (scope : Scope) (L : LamX.LamS X.env.scope scope) (h1 : X.N[i1]? = some a) (h2 : X.N[i2]? = some b)
    (v1 : Vis scope a) (v2 : Vis scope b) (hg : scope.names.lookup x = some .globalImplicit) (db : (x == ("__debug__" : Str)) = false) (d1 : (a == ("__debug__" : Str)) = false) (d2 : (b == ("__debug__" : Str)) = false) (e1 : (a == ("__classdict__" : Str)) = false) (e2 : (b == ("__classdict__" : Str)) = false) : Lam X k where
  params := noArgs
  body := .Call (.Name x p) [.Name a p1, .Name b p2] [] p3
  scope := scope
  tb := fun E => tE X.K E (callX m (consA (getV i1) (consA (getV i2) nilA)))
  L := L
  defs := fun _ => rfl
  binds := fun _ _ _ _ _ => rfl
  run := fun A outer s H E f c' hr => de_callX (X := LamX.lamCx X A outer s H E scope f c') (W := E) C hr (da_cons (de_var (pe_var h1 v1 d1 e1)) (da_cons (de_var (pe_var h2 v2 d2 e2)) da_nil)) (passes_call (X := LamX.lamCx X A outer s H E scope f c') (W := fun cls d _ H => E cls d H) (takes_of rfl rfl rfl rfl) fun _ _ _ _ h => h) hk hg db
/-- it stands at f -/
def Lam.at (D : Lam X k) (H : Hp) (f c' : Addr) : Prop := H f = some (D.obj f c') ∧ H c' = some (LamX.CodeO c' (X.env.qual ++ "<lambda>"))
theorem Lam.at.same {D : Lam X k} {H H' : Hp} {f c' : Addr} (h : D.at H f c') (s : Same H H') : D.at H' f c' := ⟨s _ _ h.1, s _ _ h.2⟩
/-- the call's reading: a slot of the caller holds the lambda, whose body is read at the slots σ of its maker -/
def tAct (X : Cx) (k i : Nat) (σ : L2.St) (W : WX) : TE := fun σZ HZ Q => ∃ E : XK, (∀ cls d H', E cls d H' → W cls d σZ H') ∧ ∃ (D : Lam X k) (f c' : Addr), σZ[i]? = some (some (.ref f)) ∧ D.at HZ f c' ∧ D.tb E σ HZ Q
theorem pe_actO {pins : List (Addr × Obj)} {σ : L2.St} {H : Hp} {s : Shared} {CXg : CXT} {Eg : XK} {Ng : List Str} {qg : Str} {sg : Scope} {g : Addr} {cdg : Value} {i : Nat} {a : Str} {pn : List (Addr × Obj)} {xe : Value → Shared → Prop} {W : WX} {p1 p2 : Pos}
    (I : Inv X pins σ H s) (tk : Takes ((cxOf CXg X.prog X.w X.K X.mg X.base Ng qg sg g cdg X.A X.stack s H Eg).tr pn xe) W) (hr : Room (k + 1) (X.A.deeper (envOfC qg sg s.heap.objs.size g cdg)))
    (hN : Ng[i]? = some a) (hv : Vis sg a) (hd : (a == ("__debug__" : Str)) = false := by decide) (hcd : (a == ("__classdict__" : Str)) = false := by decide) :
    PE ((cxOf CXg X.prog X.w X.K X.mg X.base Ng qg sg g cdg X.A X.stack s H Eg).tr pn xe) (.Call (.Name a p1) [] [] p2) (tAct X k i σ W) := by
  refine ⟨fun pinsZ sZ σZ HZ Q IZ ⟨E, hW, D, f, c', hs, hat, ht⟩ => ?_⟩
  refine wpAny_Call_Name_kw (thn ((pe_var (pos := p1) (i := i) hN hv hd hcd).run pinsZ sZ σZ HZ (fun v H1 => v = .ref f ∧ H1 = HZ) IZ ⟨.ref f, hs, rfl, rfl⟩) fun u s1 ⟨v, H1, I1, r1, ev, eH⟩ => ?_)
  subst ev eH
  obtain rfl : u = Value.ref f := r1
  obtain ⟨⟨pm, ctv, of1⟩, _, _⟩ := I1.hok f _ hat.1
  obtain ⟨⟨oc, vs, t, hoc, hdc, hvc⟩, _, _⟩ := I1.hok c' _ hat.2
  refine PySem.W.callWith_F0 ⟨_, _, _, _, of1⟩ ?_
  have un : Un (frs X.stack) [] H H1 s.heap s1.heap := I1.base
  have rc : codeAny (model X.prog X.w) (X.A.deeper (envOfC qg sg s.heap.objs.size g cdg)) (.call (.ref f) ⟨[], []⟩) (CR (L2.CX X.prog X.w) (envOfC qg sg s.heap.objs.size g cdg :: X.stack) X.prog X.w H1 s1 Q E) s1 := by
    refine PySem.W.kla_callFunE hr.depth of1 rfl D.L.co D.L.gen rfl ⟨c', oc, vs, t, rfl, hoc, hdc, hvc⟩ ?_
    rw [D.binds]
    refine wpAny_pure (wpAny_newFunctionEnv (fun y hy => (D.L.own y hy).2) (fun y hy => absurd hy (by simp)) (fun h₁ hns hsb => ⟨I1.nolimit.fresh _ hsb, ?_⟩) D.L.kind)
    show codeAny _ _ (.expr D.body (LamX.lamEnv X D.scope s1.heap.objs.size f c')) _ _
    have kp : ∀ b o, s1.heap.get? b = some o → h₁.get? b = some o := fun b o e => hsb.extBut b o (Nat.ne_of_lt (Heap.lt_size e)) (Heap.get?_push_of_some _ e)
    have J := LamX.lam_start2 (E := E) (c' := c') (f := f) (tk := s1.toks + ([] : List (Str × Value)).length) I D.L I1.env0 hr.hd un hns kp
    refine PySem.W.kla_codeExpr (wpAny_mono ((D.run _ _ s1 H1 E f c' (hr.deeper _)).run [] _ _ H1 Q J ht) (fun v s' hq => ?_) fun e s' hq => hq)
    obtain ⟨w', H', J', rv, q⟩ := hq
    exact ⟨w', H', J'.os, J'.bare, J'.base, J'.hok, rv, q⟩
  refine wpAny_call (codeAny_mono rc fun r s' hq => ?_)
  cases r with
  | error e => exact tk e s' (XE.of_call I1 hW hq)
  | ok fl =>
    cases fl with
    | ret u => exact I1.after hq
    | next => exact hq.elim
    | brk => exact hq.elim
    | cont => exact hq.elim
/-- the maker's own state, seen from a block that runs in it -/
theorem inv_above {pins pinsY : List (Addr × Obj)} {σ σY : L2.St} {H HY : Hp} {s sY : Shared} {fp : List Addr} {scope : Scope} {ce : Env} (I : Inv X pins σ H s) (hf : ∀ b ∈ fp, FpOk X pins H b) (J : Inv (X.blk s H scope ce fp) pinsY σY HY sY) : Inv X pins σ HY sY :=
  I.call' (ch := fp) J.os J.base J.hok J.bare fun b hb => ⟨(hf b hb).2.2.2.1, (hf b hb).2.1, (hf b hb).2.2.2.2.1, (hf b hb).2.2.2.2.2⟩
end
end Sa

set_option maxHeartbeats 4000000
namespace K19
open PySem PySem.Spec PyProof.Rows L2 He Sa NdefX RZ
abbrev N_error : List Str := ["_law_work", "_law_error_here", "caught"]
theorem sc_error : FnScope N_error ["_law_work"] (defScope serror) := ⟨rfl, rfl, rfl, by decide +kernel, rfl, by decide +kernel, by decide +kernel⟩
/-- _law_error(work): the error that the lambda raises, or None -/
def tErr (X : Cx) (k : Nat) (σ : L2.St) : List V → Hp → VK → Prop := fun vs H Q => ∃ (D : Lam X k) (f c' : Addr), vs = [.ref f] ∧ D.at H f c' ∧
  ∀ (E' : XK) (Q' : VK), (∀ cls d H', PySem.W.exmOne X.K cls (.ref (ga X.K "PageError")) = some true → (∀ a, H' a = none → Q (.ref a) (upd H' a (ErV cls d a))) → E' cls d H') → (∀ v H', Q .non H' → Q' v H') → D.tb E' σ H Q'
theorem error_run {X : Cx} {k : Nat} {pins : List (Addr × Obj)} {σ : L2.St} {H : Hp} {s : Shared} {vs : List V} {us : List Value} {Q : VK} (T : Tx sx X.K X.mg) (I : Inv X pins σ H s) (hr : Room (k + 2) X.A) (rv : Vals vs us) (h : tErr X k σ vs H Q) :
    codeAny (model X.prog X.w) X.A (.call (.ref (ga X.K "_law_error")) ⟨us, []⟩) (CR (L2.CX X.prog X.w) X.stack X.prog X.w H s Q E0) s := by
  obtain ⟨D, f, c', rfl, hat, ht⟩ := h
  obtain ⟨fd, F⟩ := T.def_ 42 (x := "_law_error") (st := serror) rfl
  have hb := FunD.bindsA F (ps := ["_law_work"]) (fun kV doc pm an cdv ct us hl => match us, hl with | [_], _ => rfl)
  obtain ⟨oc, od, dV, kV, doc, pm, an, cdv, ct, osl, rfl, lk, hcd, _, _⟩ := F.ex
  have hl : us.length = 1 := rv.length.symm
  refine LamX.run_ofS (N := N_error) (ps := ["_law_work"]) lk hcd sc_error hr I.env0 (hb s us hl) rv rfl fun hr' => ?_
  refine ⟨_, pss_cons (ps_set (i := 1) sc_error.nd rfl (Or.inl rfl) pe_non)
    (pss_cons (ps_try_asV (i := 2) rfl rfl sc_error.nd rfl rfl rfl ⟨rfl, by decide, .inl (T.glo "PageError")⟩ LamX.takes0 (fun W pn xe tk _ => pss_one (ps_expr (pe_actO (k := k) (i := 0) I tk hr' rfl (Or.inl rfl)))) (fun a oe cls d pn hz hf => pss_one (ps_set (i := 1) sc_error.nd rfl (Or.inl rfl) (pv 2))))
    (pss_one (ps_ret (pv 1)))), ?_⟩
  refine ⟨fun cls d H' => PySem.W.exmOne X.K cls (.ref (ga X.K "PageError")) = some true ∧ ∀ a, H' a = none → Q (.ref a) (upd H' a (ErV cls d a)), fun cls d H' ⟨e, q⟩ => ?_, D, f, c', rfl, hat, ht _ _ (fun cls d H' e q => ⟨e, q⟩) fun v H' q => ⟨_, rfl, q⟩⟩
  refine ⟨true, e, fun _ a na => ?_, fun z => by cases z⟩
  exact ⟨_, rfl, fun z => ⟨_, rfl, q a z⟩⟩
/-- the call, in a block of the lambdas' maker -/
theorem pe_error {X : Cx} {k : Nat} {pins : List (Addr × Obj)} {σ : L2.St} {H : Hp} {s : Shared} {fp : List Addr} {scope : Scope} {ce : Env} {e : Expr} {ta : TA} {p pos : Pos} (T : Tx sx X.K X.mg) (I : Inv X pins σ H s) (hf : ∀ b ∈ fp, FpOk X pins H b) (hr : Room (k + 2) X.A) (ha : PA (X.blk s H scope ce fp) [e] ta)
    (hg : Gl (X.blk s H scope ce fp) "_law_error") (he : starEach [e] ce = (false, eval e ce) :: starEach [] ce := by rfl) : PE (X.blk s H scope ce fp) (.Call (.Name "_law_error" p) [e] [] pos) (fun σ' H' Q => ta σ' H' fun vs H1 => vs.length ≤ sizeLine ∧ tErr X k σ vs H1 Q) := by
  refine ⟨fun pinsY sY σY HY Q J h => ?_⟩
  obtain ⟨fd, F⟩ := T.def_ 42 (x := "_law_error") (st := serror) rfl
  refine wpAny_Call_Name_kw (ld_glob J hg (T.glo "_law_error") ?_ (by decide))
  refine PySem.W.callWith_K (h₀ := X.base) I.ok.mod.kin F.kp (thn (ha.run pos pinsY sY σY HY _ J h) fun us s1 ⟨vs, H1, J1, r1, hz, q1⟩ => ⟨J1.kIn, ?_⟩) he rfl
  have I1 := inv_above I hf J1
  refine wpAny_call (codeAny_mono (error_run (X := X) T I1 hr r1 q1) fun r s' hq => ?_)
  cases r with
  | error e => exact passL pinsY σY H1 s1 e s' J1 hq
  | ok fl =>
    cases fl with
    | ret u => exact J1.after hq
    | next => exact hq.elim
    | brk => exact hq.elim
    | cont => exact hq.elim
end K19

set_option maxHeartbeats 4000000
/-! The data layer: len of a name, index, errors raised, written tuples, sets that are counted. -/
namespace Sa
open PySem PySem.Spec PyProof.Rows L2 He NdefX RZ
section
variable {X : Cx} {K : PySem.W.Frag} {W : XK} {σ : L2.St} {H : Hp} {f g : M PyData} {a b e : Expr} {es : List Expr} {fa : M (List PyData)} {p pos : Pos} {Q : VK} {i : Nat}
/-- len(x), x a name -/
def lenVE (i : Nat) : M PyData := fun E => match slotD E[i]? with
  | some d => ofO (lenD d) E
  | none => none
theorem de_lenV {x y : Str} {py : Pos} (hv : PE X (.Name y py) (tVar i)) (hm : X.mg "len" = none) (ex : x = "len" := by rfl) (hg : Gl X x := by rfl)
    (he : starEach [.Name y py] X.env = (false, eval (.Name y py) X.env) :: starEach [] X.env := by rfl) (hpl : (backTo pos (starEach [] X.env)).any (·.1) = false := by rfl) : PE X (.Call (.Name x p) [.Name y py] [] pos) (tE X.K W (lenVE i)) := by
  subst ex
  refine PE.imp (pe_callB call_len hg hm (by decide +kernel) (pa_cons hv pa_nil he) (by decide) (by decide) he hpl) fun σ H Q h => ?_
  obtain ⟨ow, E, rr, z, hz, k⟩ := h
  unfold lenVE at hz
  cases hd : slotD E[i]? with
  | none =>
    rw [hd] at hz
    cases hz
  | some d =>
    rw [hd] at hz
    obtain ⟨w, hw, rfl⟩ := ofO_some hz
    obtain ⟨v, hv1, hq, _⟩ := rr.slot hd
    refine ⟨v, hv1, ?_⟩
    unfold lenD at hw
    split at hw
    · cases hq
      obtain ⟨hl, ez⟩ := lim_of hw
      subst ez
      exact ⟨_, _, rfl, ⟨hl, rfl⟩, k _ H _ rr (Stp.refl _ _) (.int _)⟩
    · have ez := Option.some.inj hw
      subst ez
      cases hq with
      | lst hs ha => exact ⟨_, _, rfl, .inl ⟨_, hs, ha.length.symm⟩, k _ H _ rr (Stp.refl _ _) (.int _)⟩
    · have ez := Option.some.inj hw
      subst ez
      cases hq with
      | tup hs ha => exact ⟨_, _, rfl, .inr ⟨_, hs.sq, ha.length.symm⟩, k _ H _ rr (Stp.refl _ _) (.int _)⟩
    · cases hw
/-- -n -/
def negD : PyData → Option PyData
  | .int i => some (.int (-i))
  | _ => none
theorem de_neg (ha : PE X a (tE X.K W f)) : PE X (.UnaryOp .USub a pos) (tE X.K W (m1 negD f)) := by
  refine PE.imp (pe_un un_neg ha) fun σ H Q h => ?_
  obtain ⟨ow, E, rr, z, hz, k⟩ := h
  refine tE_bnd rr hz (fun c fs E1 e => by subst e; exact k) fun d E1 h1 ow1 H1 v R1 S1 q1 => ?_
  obtain ⟨w, hw, rfl⟩ := ofO_some h1
  cases d with
  | int i =>
    cases q1
    have ez := Option.some.inj hw
    subst ez
    exact ⟨i, rfl, k ow1 H1 _ R1 S1 (.int _)⟩
  | _ => cases hw
/-! ### raise C("..") -/
def raiseS (c : Str) : SM := fun E => some (.ex c none E)
theorem ds_raise {W' : WX} {c m : Str} {j : Nat} {p2 pos2 : Pos} (hc : X.calm = true) (tk : Takes X W') (hW : ∀ cls d σ H, W cls d H → W' cls d σ H) (fx : (Fa.exc c).ok X.K = true) (gC : X.mg c = some (.ref (ga X.K c))) (hg : Gl X c := by rfl) (hdb : (c == ("__debug__" : Str)) = false := by decide) :
    PS X (.Raise (some (.Call (.Name c p) [.Constant (.str m) j p2] [] pos)) none pos2) (tS X.K W (raiseS c)) := by
  obtain ⟨x1, x2, x3, x4⟩ := exc_ok fx
  refine PS.imp (ps_raise hc tk (pmk_own PySem.F.excBase_ValueError x1 gC x2 (raises_own x3 x4) hg hdb)) fun D σ H h => ?_
  obtain ⟨ow, E, rr, o, ho, k⟩ := h
  have e := Option.some.inj ho
  subst e
  exact hW _ _ _ _ (k ow H (.ref (ga X.K c)) none (Stp.refl _ _) ⟨rfl, rfl⟩)
/-! ### a tuple of the module -/
def noDictB (K : PySem.W.Frag) (x : Str) : Bool := match K.lookup (ga K x) with
  | some o => o.dict.isNone
  | none => false
theorem tupD_ok {x : Str} {vs : List Dv} (h : tupB K x vs = true) (n : noDictB K x = true) (H : Hp) : SqD K H (ga K x) (vs.map (Dv.v K)) := by
  rcases tupB_ok h (fun _ => none) with (q | ⟨o, q⟩) | ⟨o, its, m, h1, h2, h3, h4, h5⟩
  · cases q
  · cases q
  · refine .inr ⟨o, its, m, h1, h2, h3, h4, h5, ?_⟩
    unfold noDictB at n
    rw [h1] at n
    exact Option.isNone_iff_eq_none.mp n
theorem strs_dq {F : Hp} : ∀ ss : List Str, DqAll K F (ss.map V.str) (ss.map PyData.str)
  | [] => .nil
  | _ :: ss => .cons (.str _) (strs_dq ss)
theorem tupS_dq {x : Str} {ss : List Str} (h : tupB K x (ss.map Dv.str) = true) (n : noDictB K x = true) (H : Hp) : Dq K H (.ref (ga K x)) (.tuple (ss.map .str)) := by
  have q := tupD_ok h n H
  rw [List.map_map] at q
  exact .tup q (strs_dq ss)
/-! ### x.index(y) -/
/-- the first place of what is equal -/
def idxO (d : PyData) (ds : List PyData) : Option Nat := if SeqAt.shaped d = true ∧ SeqAt.shaped (.list ds) = true then (ds.findIdx? fun z => PyData.eqv z d) else none
theorem findIdx_some {α : Type} {p : α → Bool} {l : List α} {j : Nat} (h : l.findIdx? p = some j) : ∃ z, l[j]? = some z ∧ p z = true ∧ ∀ m z', m < j → l[m]? = some z' → p z' = false := by
  obtain ⟨hj, h1, h2⟩ := List.findIdx?_eq_some_iff_getElem.mp h
  refine ⟨l[j], List.getElem?_eq_getElem hj, h1, fun m z' hm hz => ?_⟩
  obtain ⟨hl, e⟩ := List.getElem?_eq_some_iff.mp hz
  rw [← e]
  have := h2 m hm
  simpa using this
def rIxT (K : PySem.W.Frag) : V → List V → Hp → VK → Prop := fun x xs H Q => ∃ (a : Addr) (y : V) (d : PyData) (ds : List PyData) (j : Nat) (z : PyData), x = V.ref a ∧ xs = [y] ∧ Dp K H (V.ref a) (.tuple ds) ∧ Dp K H y d ∧
  SeqAt.shaped (.list ds) = true ∧ SeqAt.shaped d = true ∧ ds[j]? = some z ∧ PyData.eqv z d = true ∧ (∀ m z', m < j → ds[m]? = some z' → PyData.eqv z' d = false) ∧ Q (.int (j : Nat)) H
theorem mt_indexT (hu : X.A.units + 65 < cLine) : MtR X "tuple.index" (rIxT X.K) := by
  rintro pins s σ H x xs v us Q J rx rxs ⟨a, y, d, ds, j, z, rfl, rfl, ht, hy, st, sd, hz, hit, hno, q⟩
  obtain rfl : v = Value.ref a := rx
  cases rxs with
  | cons ry rt =>
    rename_i uy ut
    cases rt
    obtain ⟨bs, rd⟩ := Dp.reads J d y uy hy ry
    have lay : PyData.canLayAll0 ds = true := SeqAt.canLay_of_shaped st
    have room : X.A.units + 1 + min (PyData.depthAll ds) d.depth < cLine := room_in_shaped sd hu
    cases ht with
    | tup hs ha =>
      obtain ⟨its, rv, ⟨⟨cls, dd, data, sls⟩, ho, hc, n, hdt⟩, _⟩ := J.tuple hs
      simp only at hc hdt
      subst hc hdt
      obtain ⟨as, ra⟩ := Dp.readsAll J ds _ its ha rv
      have len : its.length = ds.length := SeqAt.ReadsAll.length ds its as ra
      have read : its.map (SeqAt.readOf s.heap) = ds := SeqAt.readsAll_map ds its as lay ra
      have item : ∀ (m : Nat) (hm : m < its.toArray.size) (z' : PyData), ds[m]? = some z' → SeqAt.readOf s.heap its.toArray[m] = z' := fun m hm z' hz' => by
        have hm' : m < its.length := by simpa using hm
        rw [← read, List.getElem?_map, List.getElem?_eq_getElem hm'] at hz'
        have e := Option.some.inj hz'
        simpa using e
      obtain ⟨hj, _⟩ := List.getElem?_eq_some_iff.mp hz
      have hj' : j < its.toArray.size := by
        rw [List.size_toArray, len]
        exact hj
      refine call_meets PySem.F.slot_tuple_index ⟨_, ho, rfl⟩ PySem.F.entry_tuple_index (PySem.F.args_tuple_index_2 _ _)
        (TI.tuple_indexAt a its.toArray n dd sls uy (fun u => PyData.eqv (SeqAt.readOf s.heap u) d) j hj' (by rw [item j hj' z hz]; exact hit) fun m hm hmj => ?_)
        ⟨ho, SeqAt.items_eqAt (vs := its.toArray) (show ReadsAll s.heap its.toArray.toList ds as from ra) rd lay (SeqAt.canLay_of_shaped sd) room, .int (j : Nat), H, J.tok _, ⟨_, rfl⟩, q⟩
      have hmd : m < ds.length := by omega
      have hmz : ds[m]? = some ds[m] := List.getElem?_eq_getElem hmd
      rw [item m hm _ hmz]
      exact hno m _ hmj hmz
/-- x.index(y), x a list or a tuple -/
def tIxm (K : PySem.W.Frag) (to te : TE) : TE := fun σ H Q => to σ H fun x H1 => (∃ a xs, x = .ref a ∧ SqL K H1 a xs ∧ te σ H1 fun y H2 => rIndexD K x [y] H2 Q) ∨ ∃ a xs, x = .ref a ∧ SqD K H1 a xs ∧ te σ H1 fun y H2 => rIxT K x [y] H2 Q
theorem pe_ixm {o : Expr} {to te : TE} {apos : Pos} {name : Str} (hu : X.A.units + 65 < cLine) (recv : PE X o to) (arg : PE X e te) (en : name = "index" := by rfl)
    (b1 : attributeBase o name X.env (eval o X.env) = eval o X.env := by rfl)
    (b2 : ((backTo pos (starEach [e] X.env)).all (fun x => !x.1) && (backToKw pos (keywordEach [] X.env)).all (fun x => x.1.isSome)
      && decide ([e].length + ([] : List Keyword).length + (if ([] : List Keyword).isEmpty then 0 else 1) < 30)) = true := by rfl)
    (b3 : (apos.endLine == pos.line) = true := by rfl) (b4 : starEach [e] X.env = (false, eval e X.env) :: starEach [] X.env := by rfl) (b5 : (backTo pos (starEach [] X.env)).any (·.1) = false := by rfl) :
    PE X (.Call (.Attribute o name apos) [e] [] pos) (tIxm X.K to te) := by
  subst en
  refine ⟨fun pins s σ H Q J h => wpAny_Call_method_late b1 b2 b3 rfl (thn (recv.run pins s σ H _ J h) ?_)⟩
  have args : PA X [e] (tCons te tNil) := pa_cons arg pa_nil b4
  rintro v s1 ⟨x, H1, J1, rx, ⟨a, xs, rfl, hd, q⟩ | ⟨a, xs, rfl, hd, q⟩⟩
  · obtain rfl : v = Value.ref a := rx
    obtain ⟨its, _, pl, _⟩ := J1.list hd
    refine ⟨"list", "list.index", PySem.F.plainAttrs_list, PySem.F.slot_list_index, PySem.F.type_list_index, pl.isList.typeIs, fun b e => ?_, ?_⟩
    · cases e
      obtain ⟨o, n, e, _, d, _⟩ := pl
      exact ⟨o, e, d⟩
    · have ran := args.run pos pins s1 σ H1 (fun ys H2 => rIndexD X.K (.ref a) ys H2 Q) J1 q
      rw [b4] at ran ⊢
      refine Calls.callWith_builtin (by show (false || (backTo pos (starEach [] X.env)).any (·.1)) = false; rw [b5] <;> rfl) (Calls.evalArgs_plain (thn ran ?_))
      rintro us s2 ⟨vs, H2, J2, r2, q2⟩
      exact mt_indexD hu pins s2 σ H2 (.ref a) vs _ us Q J2 rfl r2 q2
  · obtain rfl : v = Value.ref a := rx
    obtain ⟨its, _, ht, _⟩ := J1.tuple hd.sq
    refine ⟨"tuple", "tuple.index", PySem.F.plainAttrs_tuple, PySem.F.slot_tuple_index, PySem.F.type_tuple_index, ht.typeIs, fun b e => by cases e; exact tuple_noDict J1 hd, ?_⟩
    have ran := args.run pos pins s1 σ H1 (fun ys H2 => rIxT X.K (.ref a) ys H2 Q) J1 q
    rw [b4] at ran ⊢
    refine Calls.callWith_builtin (by show (false || (backTo pos (starEach [] X.env)).any (·.1)) = false; rw [b5] <;> rfl) (Calls.evalArgs_plain (thn ran ?_))
    rintro us s2 ⟨vs, H2, J2, r2, q2⟩
    exact mt_indexT hu pins s2 σ H2 (.ref a) vs _ us Q J2 rfl r2 q2
def idxE (f g : M PyData) : M PyData := bnd f fun c => match sqO c with
  | some z => bnd g fun d => ofO ((idxO d z.2).map fun j => .int (j : Nat))
  | none => die
theorem de_index {o : Expr} {apos : Pos} {name : Str} (hu : X.A.units + 65 < cLine) (ho : PE X o (tE X.K W f)) (ha : PE X e (tE X.K W g)) (en : name = "index" := by rfl)
    (b1 : attributeBase o name X.env (eval o X.env) = eval o X.env := by rfl)
    (b2 : ((backTo pos (starEach [e] X.env)).all (fun x => !x.1) && (backToKw pos (keywordEach [] X.env)).all (fun x => x.1.isSome)
      && decide ([e].length + ([] : List Keyword).length + (if ([] : List Keyword).isEmpty then 0 else 1) < 30)) = true := by rfl)
    (b3 : (apos.endLine == pos.line) = true := by rfl) (b4 : starEach [e] X.env = (false, eval e X.env) :: starEach [] X.env := by rfl) (b5 : (backTo pos (starEach [] X.env)).any (·.1) = false := by rfl) :
    PE X (.Call (.Attribute o name apos) [e] [] pos) (tE X.K W (idxE f g)) := by
  refine PE.imp (pe_ixm hu ho ha en b1 b2 b3 b4 b5) fun σ H Q h => ?_
  obtain ⟨ow, E, rr, z, hz, k⟩ := h
  refine tE_bnd rr hz (fun c fs E1 e => by subst e; exact k) fun c E1 h1 ow1 H1 v R1 S1 q1 => ?_
  have fin : ∀ (ds : List PyData) (j : Nat) (d : PyData) (w : PyData), (idxO d ds).map (fun j => PyData.int (j : Nat)) = some w → ∃ j z, w = .int (j : Nat) ∧ SeqAt.shaped d = true ∧ SeqAt.shaped (.list ds) = true ∧ ds[j]? = some z ∧ PyData.eqv z d = true ∧ ∀ m z', m < j → ds[m]? = some z' → PyData.eqv z' d = false := fun ds _ d w hw => by
    unfold idxO at hw
    by_cases hs : SeqAt.shaped d = true ∧ SeqAt.shaped (.list ds) = true
    · rw [if_pos hs] at hw
      cases hf : ds.findIdx? fun z => PyData.eqv z d with
      | none =>
        rw [hf] at hw
        cases hw
      | some j =>
        rw [hf] at hw
        obtain ⟨z, g1, g2, g3⟩ := findIdx_some hf
        exact ⟨j, z, (Option.some.inj hw).symm, hs.1, hs.2, g1, g2, g3⟩
    · rw [if_neg hs] at hw
      cases hw
  cases c with
  | list ds =>
    cases q1 with
    | lst hs ha =>
      refine .inl ⟨_, _, rfl, Same.seqL frz_sub hs, ?_⟩
      refine tE_bnd R1 h1 (fun c fs E1 e ow' H' cls dv s x => by subst e; exact k ow' H' cls dv (S1.trans s) x) fun d E2 h2 ow2 H2 u R2 S2 q2 => ?_
      obtain ⟨w, hw, rfl⟩ := ofO_some h2
      obtain ⟨j, z, rfl, g1, g2, g3, g4, g5⟩ := fin ds 0 d w hw
      have lay : PyData.canLayAll0 ds = true := SeqAt.canLay_of_shaped g2
      refine ⟨_, u, d, ds, j, z, rfl, rfl, Dq.dp (.list ds) _ lay (.lst (Same.seqL frz_sub (Same.seqL S2.same hs)) (Dq.sameAll frz_sub _ _ (S2.dqs ha))), Dq.dp d u (SeqAt.canLay_of_shaped g1) (Dq.same frz_sub _ _ q2), g2, g1, g3, g4, g5, ?_⟩
      exact k ow2 H2 _ R2 (S1.trans S2) (.int _)
  | tuple ds =>
    cases q1 with
    | tup hs ha =>
      refine .inr ⟨_, _, rfl, Same.seqD frz_sub hs, ?_⟩
      refine tE_bnd R1 h1 (fun c fs E1 e ow' H' cls dv s x => by subst e; exact k ow' H' cls dv (S1.trans s) x) fun d E2 h2 ow2 H2 u R2 S2 q2 => ?_
      obtain ⟨w, hw, rfl⟩ := ofO_some h2
      obtain ⟨j, z, rfl, g1, g2, g3, g4, g5⟩ := fin ds 0 d w hw
      have lay : PyData.canLayAll0 ds = true := SeqAt.canLay_of_shaped g2
      refine ⟨_, u, d, ds, j, z, rfl, rfl, Dq.dp (.tuple ds) _ lay (.tup (Same.seqD frz_sub (Same.seqD S2.same hs)) (Dq.sameAll frz_sub _ _ (S2.dqs ha))), Dq.dp d u (SeqAt.canLay_of_shaped g1) (Dq.same frz_sub _ _ q2), g2, g1, g3, g4, g5, ?_⟩
      exact k ow2 H2 _ R2 (S1.trans S2) (.int _)
  | _ => cases h1
/-! ### sets of texts that are counted -/
end
end Sa

set_option maxHeartbeats 4000000
/-! The data layer: enumerate over lists and tuples. -/
namespace Sa
open PySem PySem.Spec PyProof.Rows L2 He NdefX RZ
/-- the tuple at a, each item in a new pair with its place -/
def Itet (K : PySem.W.Frag) (a : Addr) : It := ⟨fun i H => ∃ (xs : List V) (x : V), SqT K H a xs ∧ xs[i]? = some x, fun i H v H' => ∃ T x, v = .ref T ∧ H T = none ∧ H' = upd H T (.tup [.int (i : Nat), x]) ∧ ∀ xs, SqT K H a xs → xs[i]? = some x, fun i H => ∃ xs : List V, SqT K H a xs ∧ xs.length = i⟩
theorem turn_enumTu {P : Program} {w : World} {K : PySem.W.Frag} {elts : List Expr} {kk : Nat} {tpos : Pos} (a e it : Addr) (hne2 : a ≠ it) (hne3 : e ≠ a) :
    Turn P w K (.Tuple elts kk tpos) (Itet K a) [e, it] e (fun i h => (∃ old, IsEnum h e it ((i : Nat) : Int) old) ∧ h.IsTupleIter it a i ∧ e ≠ it) where
  mem := by simp
  obj := by
    rintro i h ⟨⟨old, he⟩, ⟨o, ho, hc, hd⟩, _⟩ b hb
    rcases (show b = e ∨ b = it by simpa using hb) with z | z <;> rw [z]
    · exact ⟨_, he, fun v q => nomatch q⟩
    · exact ⟨o, ho, fun v q => by rw [hd] at q; cases q⟩
  keep := by
    rintro i h h' ⟨⟨old, he⟩, ⟨o, ho, r⟩, hne⟩ k
    exact ⟨⟨old, k e (by simp) _ he⟩, ⟨o, k it (by simp) o ho, r⟩, hne⟩
  item := by
    rintro X rfl rfl rfl hc i pins s σ H E I hf ⟨⟨old, he⟩, hit, hne⟩ ⟨xs, x, hq, hx⟩
    obtain ⟨its, rv, pl, hz⟩ := I.tuple hq
    obtain ⟨u, hu, ru⟩ := Vals.get rv hx
    have hel : e < s.heap.objs.size := Heap.lt_size he
    have hil : it < s.heap.objs.size := by
      obtain ⟨_, q, _⟩ := hit
      exact Heap.lt_size q
    have hi : i < its.toArray.size := by
      have := (List.getElem?_eq_some_iff.mp hu).1
      simpa using this
    have D := Draws.tuple (prog := X.prog) (w := X.w) (A := X.A.in1) (I.ok.hd hc) it a hne2 its.toArray
    refine wpAny_pyNext_enum_itemD D he ⟨hit, pl⟩ hi hne (fun m => (by simpa using m : e = it ∨ e = a).elim hne hne3) fun u2 h' tk hu2 ho hst hT hsz hk => ?_
    have eu : u2 = u := by
      have hu2 : its[i]? = some u2 := by simpa using hu2
      rw [hu] at hu2
      exact (Option.some.inj hu2).symm
    subst eu
    refine ⟨_, rfl, wpAny_letOwnedTupleGo_enum (s := { s with heap := h', toks := tk + 1 }) ho fun h'' he' sb => ?_⟩
    have tupAt : h''.get? s.heap.objs.size = some { cls := .type "tuple", data := .seq #[.int i tk, u2] } := (sb.2 _ (Nat.ne_of_gt hel)).trans hT
    have fresh : ObjOk X.prog X.w (upd H s.heap.objs.size (.tup [.int (i : Nat), x])) h'' s.heap.objs.size (.tup [.int (i : Nat), x]) :=
      ⟨by show 2 ≤ sizeLine; decide, [.int i tk, u2], .cons ⟨_, rfl⟩ (.cons ru .nil), ⟨_, tupAt, rfl, _, rfl⟩⟩
    have J : Inv X pins σ (upd H s.heap.objs.size (.tup [.int (i : Nat), x])) { s with heap := h'', toks := tk + 1 } :=
      I.turnedNew (ch := [e, it]) (fun b ob hb q => (sb.2 b (fun z => hb (by rw [z]; simp))).trans (hk b ob (fun z => hb (by rw [z]; simp)) (fun z => hb (by rw [z]; simp)) q)) hf (Nat.le_refl _) fresh
    refine ⟨.ref s.heap.objs.size, _, J, rfl, ⟨_, x, rfl, I.hok.fresh (Nat.le_refl _), rfl, fun ys hy => by rw [I.tuple_inj hy hq]; exact hx⟩, ⟨⟨u2, ?_⟩, ?_, hne⟩, fun b hb => ?_⟩
    · rw [show ((i + 1 : Nat) : Int) = (i : Int) + 1 by omega]
      exact he'
    · obtain ⟨o, ho', r⟩ := hst.1
      exact ⟨o, (sb.2 it (Ne.symm hne)).trans ho', r⟩
    · have lt : b < s.heap.objs.size := by
        rcases (show b = e ∨ b = it by simpa using hb) with z | z <;> rw [z]
        · exact hel
        · exact hil
      rw [upd_ne (Nat.ne_of_lt lt)]
      exact (hf b hb).1
  done := by
    rintro X rfl rfl rfl hc i pins s σ H E I hf ⟨⟨old, he⟩, hit, hne⟩ ⟨xs, hq, hx⟩
    obtain ⟨its, rv, pl, hz⟩ := I.tuple hq
    obtain ⟨f0, f1, f2, f3, f4, f5⟩ := hf it (by simp)
    have hi : i = its.toArray.size := by
      have := rv.length
      simp
      omega
    subst hi
    have D := Draws.tuple (prog := X.prog) (w := X.w) (A := X.A.in1) (I.ok.hd hc) it a hne2 its.toArray
    exact wpAny_pyNext_enum_endD D he ⟨hit, pl⟩ fun h' eb => ⟨rfl, I.turned (t' := s.toks) (fun b o hb q => eb b o hb q) f0 f1 f3 f4 f5⟩
  self := fun A i s Q E st h => let ⟨⟨_, he⟩, _⟩ := st; wpAny_pyIter_enum he h
theorem enum_new1 {v : Value} {o : Obj} {G : Heap → Prop} (B : Begins v o G) : Meets (Builtin.«enumerate.__new__» ⟨[.type "enumerate", v], []⟩) (fun _ R s => G s.heap ∧
    R (.ok (.ret (.ref (s.heap.push o).objs.size))) { s with heap := (s.heap.push o).push { cls := .type "enumerate", data := .fields #[.none, .bool false, .ref s.heap.objs.size, rawInt 0, .none, .none] } }) :=
  .of_wp fun prog w A R s h => by
    obtain ⟨hp, g, d, tk, os⟩ := s
    obtain ⟨h1, h⟩ := h
    have known := sub_enumerate
    have walkB : ∀ {A' : Around} {E : Value → Shared → Prop} {Q : Value → Shared → Prop}, Q (.ref hp.objs.size) ⟨hp.push o, g, d, tk, os⟩ → wpAny (model prog w) A' (pyIter v) Q E ⟨hp, g, d, tk, os⟩ := fun q => B.iter prog w _ _ ⟨hp, g, d, tk, os⟩ _ h1 q
    wp_walk using walkB
    refine wpAny_stack_any fun st => wpAny_pure ?_
    split
    · rename_i c _ _ _ _ _
      cases (c == Value.type "enumerate") <;> (wp_walk using walkB; exact ⟨_, rfl, h⟩)
    · wp_walk using walkB
      exact ⟨_, rfl, h⟩
theorem call_enum1 {P : Program} {w : World} {A : Around} {E : Value → Shared → Prop} {s : Shared} {v : Value} {o : Obj} {G : Heap → Prop} {Q : Value → Shared → Prop} (B : Begins v o G) (h1 : G s.heap)
    (h : ∀ h', IsEnum h' (s.heap.objs.size + 1) s.heap.objs.size 0 .none → h'.get? s.heap.objs.size = some o → (∀ b o, s.heap.get? b = some o → h'.get? b = some o) → Q (.ref (s.heap.objs.size + 1)) { s with heap := h' }) :
    wpAny (model P w) A (call (.type "enumerate") [v]) Q E s := by
  refine callType_new PySem.F.called_enumerate (by decide) (PySem.F.typeCall_enumerate_1 _) (PySem.F.newCall_enumerate_1 _) (fun obj => PySem.F.args_object_init_2 obj _) PySem.F.entry_enumerate_new (enum_new1 B) ⟨h1, ?_⟩
  have hz : (s.heap.push o).objs.size = s.heap.objs.size + 1 := Heap.size_push ..
  have he := Heap.get?_push_size (s.heap.push o) (o := { cls := .type "enumerate", data := .fields #[.none, .bool false, .ref s.heap.objs.size, rawInt 0, .none, .none] }) rfl
  show _ ∧ _
  rw [hz] at he ⊢
  exact ⟨⟨_, he, rfl⟩, h _ he (Heap.get?_push_of_some _ (Heap.get?_push_size _ B.free)) fun b o x => Heap.get?_push_of_some _ (Heap.get?_push_of_some _ x)⟩
/-- enumerate(a list), enumerate(a tuple) -/
def iEnumA (K : PySem.W.Frag) (ta : TA) : TI := fun σ H Rw => ta σ H fun vs H1 => ∃ a xs, vs = [.ref a] ∧ ((SqL K H1 a xs ∧ Rw (Ite K a) H1) ∨ (SqT K H1 a xs ∧ Rw (Itet K a) H1))
section
variable {X : Cx} {W : XK} {ow : Ow} {H : Hp} {K : PySem.W.Frag}
theorem pi_enumA {e : Expr} {ta : TA} {p pos tpos : Pos} {elts : List Expr} {kk : Nat} (hg : Gl X "enumerate") (hm : X.mg "enumerate" = none) (ha : PA X [e] ta) (hs : starEach [e] X.env = [(false, eval e X.env)] := by rfl) :
    PI X (.Tuple elts kk tpos) (.Call (.Name "enumerate" p) [e] [] pos) (iEnumA X.K ta) := by
  refine ⟨fun pins s σ H R I h => ?_⟩
  refine Call_ (ld_blt I hg hm boot_enumerate (PyProof.Rows.callWith_type1 (thn (ha.run pos pins s σ H _ I h) fun us s1 ⟨vs, H1, I1, r1, q1⟩ => ?_) hs rfl))
  obtain ⟨a, xs, rfl, q⟩ := q1
  rw [Vals.ref1 r1]
  have fp : ∀ b ∈ [s1.heap.objs.size + 1, s1.heap.objs.size], FpOk X pins H1 b := fun b hb => by
    have le : s1.heap.objs.size ≤ b := by
      rcases (show b = s1.heap.objs.size + 1 ∨ b = s1.heap.objs.size by simpa using hb) with z | z <;> rw [z]
      · exact Nat.le_succ _
      · exact Nat.le_refl _
    exact I1.fpOk le (I1.hok.fresh le)
  rcases q with ⟨hq, q⟩ | ⟨hq, q⟩
  · obtain ⟨its, rv, pl, hz⟩ := I1.list hq
    refine call_enum1 (begins_list a its.toArray) pl.isList fun h' he hit hk => wpAny_pyIter_enum he ?_
    exact ⟨_, _, _, _, H1, rfl, I1.kept (t' := s1.toks) hk, turn_enum a (s1.heap.objs.size + 1) s1.heap.objs.size, ⟨⟨.none, he⟩, ⟨_, hit, rfl, rfl⟩, Nat.succ_ne_self _⟩, fp, q⟩
  · obtain ⟨its, rv, pl, hz⟩ := I1.tuple hq
    have la : a < s1.heap.objs.size := by
      obtain ⟨o, e, _⟩ := pl
      exact Heap.lt_size e
    refine call_enum1 (begins_tuple a its.toArray) pl fun h' he hit hk => wpAny_pyIter_enum he ?_
    exact ⟨_, _, _, _, H1, rfl, I1.kept (t' := s1.toks) hk, turn_enumTu a (s1.heap.objs.size + 1) s1.heap.objs.size (Nat.ne_of_lt la) (Nat.ne_of_gt (Nat.lt_succ_of_lt la)), ⟨⟨.none, he⟩, ⟨_, hit, rfl, rfl⟩, Nat.succ_ne_self _⟩, fp, q⟩
theorem walk_enumT {K : PySem.W.Frag} {a : Addr} {xs : List V} : Walk (Itet K a) xs.length (fun H => SqT K H a xs) (YPair (fun i => some (.int (i : Nat))) (fun i => xs[i]?)) := by
  refine ⟨fun i _ hi q => ⟨xs, _, q, List.getElem?_eq_getElem hi⟩, fun _ q => ⟨xs, q, rfl⟩, fun i H v H' _ q y => ?_⟩
  obtain ⟨T, x, h1, h2, h3, h4⟩ := y
  exact ⟨T, _, x, h1, h2, h3, rfl, h4 xs q⟩
def enumL : Nat → List PyData → List PyData
  | _, [] => []
  | k, d :: ds => .tuple [.int (k : Nat), d] :: enumL (k + 1) ds
theorem enumL_len : ∀ (k : Nat) (ds : List PyData), (enumL k ds).length = ds.length
  | _, [] => rfl
  | k, d :: ds => by simp [enumL, enumL_len (k + 1) ds]
theorem enumL_get : ∀ (ds : List PyData) (k i : Nat) (d : PyData), ds[i]? = some d → (enumL k ds)[i]? = some (.tuple [.int ((k + i : Nat) : Int), d])
  | [], k, i, d, h => by simp at h
  | e :: ds, k, 0, d, h => by
    cases h
    rfl
  | e :: ds, k, i + 1, d, h => by
    rw [List.getElem?_cons_succ] at h
    show (enumL (k + 1) ds)[i]? = _
    rw [enumL_get ds (k + 1) i d h]
    congr 4
    omega
def enumE (f : M (List PyData)) : M (List PyData) := bnd f fun ds => match ds with
  | [.list xs] => if xs.length ≤ sizeLine then ret (enumL 0 xs) else die
  | [.tuple xs] => if xs.length ≤ sizeLine then ret (enumL 0 xs) else die
  | _ => die
variable {e : Expr} {fa : M (List PyData)}
theorem di_enum {p pos : Pos} {elts : List Expr} {kk : Nat} {tpos : Pos} {ts : List Tg} (hm : X.mg "enumerate" = none) (ha : PA X [e] (tA X.K W fa)) {x : Str} (ex : x = "enumerate" := by rfl) (hg : Gl X x := by rfl)
    (hs : starEach [e] X.env = [(false, eval e X.env)] := by rfl) : PI X (.Tuple elts kk tpos) (.Call (.Name x p) [e] [] pos) (tI X.K W (.tp ts) (enumE fa)) := by
  subst ex
  refine PI.imp (pi_enumA hg hm ha hs) fun σ H Rw h => ?_
  obtain ⟨ow, E, rr, z, hz, k⟩ := h
  refine tA_bnd rr hz (fun c fs E1 e => by subst e; exact k) fun ds E1 h1 ow1 H1 vs R1 S1 q1 => ?_
  have pair : ∀ {J : It} {G : Hp → Prop} {us : List V} {xs : List PyData}, DqAll X.K (frz ow1 H1) us xs → xs.length ≤ sizeLine → Walk J us.length G (YPair (fun i => some (.int (i : Nat))) (fun i => us[i]?)) → (∀ ow' H', Same (frz ow1 H1) (frz ow' H') → G H') → WkD X.K ow1 H1 J (.tp ts) (enumL 0 xs) :=
    fun {J G us xs} d few w g => by
      rw [d.length, ← enumL_len 0 xs] at w
      refine wk_pair w g (fun i x y hx hy _ => ?_) (by rw [enumL_len]; exact few)
      have ex := Option.some.inj hx
      subst ex
      obtain ⟨d', g1, g2⟩ := d.get' i hy
      refine ⟨_, d', enumL_get xs 0 i d' g1, ?_, g2⟩
      rw [Nat.zero_add]
      exact .int _
  match ds, h1, q1 with
  | [.list xs], h1, .cons (.lst (a := a1) (xs := us) s1 d1) .nil =>
    obtain ⟨few, h1⟩ := lim_some h1
    have e := Option.some.inj h1
    subst e
    exact ⟨a1, us, rfl, .inl ⟨Same.seqL frz_sub s1, k ow1 H1 _ R1 S1 (pair d1 few walk_enum fun ow' H' s => seqL_stp s s1)⟩⟩
  | [.tuple xs], h1, .cons (.tup (a := a1) (xs := us) s1 d1) .nil =>
    obtain ⟨few, h1⟩ := lim_some h1
    have e := Option.some.inj h1
    subst e
    exact ⟨a1, us, rfl, .inr ⟨Same.seqT frz_sub s1.sq, k ow1 H1 _ R1 S1 (pair d1 few walk_enumT fun ow' H' s => seqT_stp s s1.sq)⟩⟩
end
end Sa

set_option maxHeartbeats 4000000
/-! The data layer: list.extend. -/
namespace Sa
open PySem PySem.Spec PyProof.Rows L2 He NdefX RZ
open AutoSeq1 (wpAny_loadPart')
theorem meets_ext (l : Addr) (items : Array Value) (n : Nat) (b : Addr) (dct : Option Addr) (sl : Array (Option Value)) (items2 : Array Value) (n2 : Nat) (hc0 : ¬(!items.isEmpty && Builtin.List.listTooLong (items.size + items2.size)) = true) (hc1 : items.size ≤ sizeLine) (hs2 : items.size + items2.size ≤ sizeLine + 1) :
    Meets (Builtin.«list.extend» ⟨[.ref l, .ref b], []⟩) (fun _ R s => s.heap.get? l = some { cls := .type "list", dict := none, data := .seq items n, slots := #[] } ∧ s.heap.get? b = some { cls := .type "list", dict := dct, data := .seq items2 n2, slots := sl } ∧ R (.ok (.ret Value.none)) { s with heap := s.heap.update l (Obj.mapSeq fun x => x ++ items2), toks := s.toks }) :=
  .of_wp fun prog w A R s h => by
    obtain ⟨hp, g, d, tk, os⟩ := s
    obtain ⟨hl, hb, h⟩ := h
    have f2 := PySem.F.sub_tuple_tuple
    have f3 := PySem.F.sub_list_list
    have f4 := PySem.F.sub_tuple_list
    have f5 := PySem.F.sub_list_tuple
    have fit : (items ++ items2).size ≤ sizeLine + 1 := by
      rw [Array.size_append]
      exact hs2
    wp_walk using (wpAny_updateSeq hl rfl (hz := hc1) (_hz' := fit)), wpAny_loadPart' hl, wpAny_loadPart' hb
    exact ⟨_, rfl, h⟩
/-- l.extend(b), b any list -/
def rExtA (K : PySem.W.Frag) : V → List V → Hp → VK → Prop := fun x vs H Q => ∃ l b xs zs, x = .ref l ∧ vs = [.ref b] ∧ H l = some (.lst xs) ∧ SqL K H b zs ∧ xs.length + zs.length ≤ sizeLine ∧ Q .non (upd H l (.lst (xs ++ zs)))
section
variable {X : Cx} {W : XK} {K : PySem.W.Frag}
theorem mt_extA : MtM X "list.extend" (rExtA X.K) := by
  rintro pins s σ H x vs v us Q I rx rv ⟨l, b, xs, zs, rfl, rfl, hH, hB, hz, q⟩
  cases rx
  obtain ⟨u, rfl, ru⟩ := rv.one
  cases ru
  obtain ⟨z, its, n, r, hl, e⟩ := I.lstM hH
  obtain ⟨its2, r2, p2, _⟩ := I.list hB
  obtain ⟨⟨cls2, dd2, data2, sl2⟩, n2, e2, hc2, hd2, ht2⟩ := p2
  simp only at hc2 hd2 ht2
  subst hc2
  subst ht2
  have l1 := r.length
  have l2 := r2.length
  have size : its.toArray.size + its2.toArray.size ≤ sizeLine := by
    rw [List.size_toArray, List.size_toArray]
    omega
  have fits : ¬ (!its.toArray.isEmpty && Builtin.List.listTooLong (its.toArray.size + its2.toArray.size)) = true := by
    rw [notLongL size, Bool.and_false]
    exact Bool.false_ne_true
  refine call_meets PySem.F.slot_list_extend ⟨_, e, rfl⟩ PySem.F.entry_list_extend (PySem.F.args_list_extend_2 _ _) (meets_ext l its.toArray n b dd2 sl2 its2.toArray n2 fits (by rw [List.size_toArray]; omega) (by omega)) ⟨e, e2, ?_⟩
  refine ⟨.non, _, I.lset (its' := its ++ its2) hH e (by simp) (r.append r2) ?_, rfl, q⟩
  rw [List.length_append]
  omega
theorem DqAll.app {F : Hp} : ∀ {vs ws : List V} {ds es : List PyData}, DqAll K F vs ds → DqAll K F ws es → DqAll K F (vs ++ ws) (ds ++ es)
  | _, _, _, _, .nil, h => h
  | _, _, _, _, .cons a t, h => .cons a (DqAll.app t h)
theorem extM_ok : MutD K (rExtA K) extM := by
  intro F H a vs ws ds es ds' d Q ha hF s h1 h2 hop k
  unfold extM at hop
  split at hop
  · obtain ⟨hl, ee⟩ := lim_of hop
    cases ee
    cases h2 with
    | cons z1 z2 =>
      cases z2
      cases z1 with
      | lst sq dd =>
        exact ⟨a, _, vs, _, rfl, rfl, ha, Same.seqL s sq, by rw [h1.length, dd.length]; exact hl, k .non _ (DqAll.app h1 dd) .non⟩
  · cases hop
/-- {} -/
theorem de_dct0 {pos : Pos} : PE X (.Dict [] [] pos) (tE X.K W (ret (.dict []))) := by
  refine ⟨fun pins s σ H Q I h => ?_⟩
  obtain ⟨ow, E, rr, z, hz, k⟩ := h
  have e := Option.some.inj hz
  subst e
  have hn := I.hok.fresh (Nat.le_refl s.heap.objs.size)
  have I1 := I.laid (a := s.heap.objs.size) (o := .dK []) (h' := s.heap.push { cls := .type "dict", data := .dict #[] }) (t' := s.toks) (fun _ _ q => Heap.get?_push_of_some _ q) (Nat.le_refl _) (dk_empty s.heap I.big)
  exact wpAny_Dict_empty ⟨.ref s.heap.objs.size, _, I1, rfl, k ow _ _ (rr.new hn) (Stp.new hn) (.dct (.inl (frz_new (rr.fresh hn))) .nil)⟩
/-- t[::-1] -/
theorem rev_adjust (n : Nat) : Builtin.Slice.sliceAdjust none none (-1) (n : Int) = ((n : Int) - 1, -1) := rfl
theorem rev_places (n : Nat) : Builtin.Slice.slicePlaces ((n : Int) - 1) (-1) (-1) = n := by
  unfold Builtin.Slice.slicePlaces
  rw [if_neg (by decide)]
  by_cases h : (n : Int) - 1 > -1
  · rw [if_pos h, show (-(-1) : Int) = 1 by decide, Int.ediv_one]
    omega
  · rw [if_neg h]
    omega
theorem fm_at {α β : Type} {f g : α → Option β} : ∀ {l : List α}, (∀ x ∈ l, f x = g x) → l.filterMap f = l.filterMap g
  | [], _ => rfl
  | x :: l, h => by
    rw [List.filterMap_cons, List.filterMap_cons, h x List.mem_cons_self, fm_at fun y hy => h y (List.mem_cons_of_mem _ hy)]
theorem rev_pick (xs : Array Value) : ((List.range xs.size).filterMap fun (m : Nat) => xs[(((xs.size : Int) - 1) + (m : Int) * (-1)).toNat]?).toArray = xs.toList.reverse.toArray := by
  have e : ((List.range xs.size).filterMap fun (m : Nat) => xs[(((xs.size : Int) - 1) + (m : Int) * (-1)).toNat]?) = ((List.range xs.size).map fun k => xs.size - 1 - k).filterMap (xs[·]?) := by
    rw [List.filterMap_map]
    refine fm_at fun m hm => ?_
    have hm := List.mem_range.mp hm
    have : (((xs.size : Int) - 1) + (m : Int) * (-1)).toNat = xs.size - 1 - m := by omega
    rw [this]
    rfl
  rw [e, PySem.W.krv_range, List.filterMap_reverse, PySem.W.krv_all]
theorem rev_item {P : Program} {w : World} {A : Around} {E : Value → Shared → Prop} {s : Shared} {t sl : Addr} {items : Array Value} {vs : Value} {Q : Value → Shared → Prop} (ht : IsTup s.heap t items) (hs : s.heap.IsSliceOf sl .none .none vs) (pk : IsPart vs (some (-1)))
    (h : Q (.ref s.heap.objs.size) { s with heap := s.heap.push (tupO items.toList.reverse) }) (hsz : items.size ≤ sizeLine) : wpAny (model P w) A (getItem (.ref t) (.ref sl)) Q E s := by
  have fit : sizeOk (.seq items.toList.reverse.toArray) := by
    show items.toList.reverse.toArray.size ≤ sizeLine
    rw [List.size_toArray, List.length_reverse, Array.length_toList]
    exact hsz
  obtain ⟨os, hos, hcs, hds⟩ := id hs
  have hTs : s.TypeIs (.ref sl) "slice" := ⟨os, hos, hcs⟩
  unfold getItem
  try with_reducible refine wpAny_holding ?_
  first | refine wpAny_bind (wpAny_pure ?_) | skip
  refine wpAny_bind (wpAny_sequenceKey ht.typeIs (by decide) ?_)
  refine wpAny_bind (wpAny_callSpecial?_slot (name := Str.ofString "__getitem__") ht.typeIs PyProof.Rows.slot_tuple_getitem (wpAny_call_entry PyProof.Rows.slot_tuple_getitem ht.typeIs PyProof.Rows.entry_tuple_getitem ?_ (PyProof.Rows.args_tuple_getitem _ _)))
  show wpAny _ _ (Builtin.Tuple.tupleItemsOf (.ref t) >>= _) _ _ s
  refine wpAny_bind (PyProof.Rows.tupleItemsOf_ ht ?_)
  refine wpAny_bind (wpAny_typeOf hTs ?_)
  rw [if_pos (by decide)]
  refine wpAny_bind (m := Builtin.Slice.sliceApplied _ _) ?_
  have app : ∀ {Q : Int × Int × Nat → Shared → Prop} {A : Around} {E : Value → Shared → Prop}, Q ((items.size : Int) - 1, -1, items.size) s → wpAny (model P w) A (Builtin.Slice.sliceApplied (.ref sl) (pure (items.size : Int))) Q E s := fun {Q A E} q => by
    unfold Builtin.Slice.sliceApplied Builtin.Slice.sliceFields
    refine wpAny_bind (wpAny_bind (wpAny_field hos hds (x := .none) rfl (wpAny_bind (wpAny_field hos hds (x := .none) rfl (wpAny_bind (wpAny_field hos hds (x := vs) rfl (wpAny_pure ?_)))))))
    refine wpAny_bind (HT.slicePart_ pk ?_)
    show wpAny _ _ (if ((-1 : Int) == 0) = true then _ else _) _ _ s
    rw [if_neg (by decide)]
    refine wpAny_bind (HT.slicePart_ .none (wpAny_bind (HT.slicePart_ .none (wpAny_bind (wpAny_pure ?_)))))
    show wpAny _ _ (match Builtin.Slice.sliceAdjust none none (-1) (items.size : Int) with | (lo, hi) => pure (lo, (-1 : Int), Builtin.Slice.slicePlaces lo hi (-1))) _ _ s
    rw [rev_adjust]
    show wpAny _ _ (pure ((items.size : Int) - 1, (-1 : Int), Builtin.Slice.slicePlaces ((items.size : Int) - 1) (-1) (-1))) _ _ s
    rw [rev_places]
    exact wpAny_pure q
  refine app ?_
  have hno : ¬ (((((items.size : Int) - 1) : Int) == 0 && (-1 : Int) == 1 && items.size == items.size) = true) := by
    rw [show ((-1 : Int) == 1) = false from rfl, Bool.and_false, Bool.false_and]
    exact Bool.false_ne_true
  show wpAny _ _ (if (((items.size : Int) - 1) == 0 && (-1 : Int) == 1 && items.size == items.size) = true then _ else _) _ _ s
  rw [if_neg hno, rev_pick]
  first
    | exact wpAny_bind (m := Builtin.Tuple.tupleExact _) (wpAny_newObj_type (wpAny_pure ⟨_, rfl, wpAny_pure h⟩) fit)
    | exact wpAny_bind (m := Builtin.Tuple.tupleExact _) (wpAny_newObj_type (wpAny_bind (wpAny_pure (wpAny_pure ⟨_, rfl, wpAny_pure h⟩))) fit)
    | exact wpAny_bind (wpAny_bind (m := Builtin.Tuple.tupleExact _) (wpAny_newObj_type (wpAny_pure (wpAny_pure ⟨_, rfl, wpAny_pure h⟩)) fit))
    | exact wpAny_bind (wpAny_bind (m := Builtin.Tuple.tupleExact _) (wpAny_newObj_type (wpAny_pure ⟨_, rfl, wpAny_pure h⟩) fit))
def revE (f : M PyData) : M PyData := bnd f fun d => match d with
  | .tuple ds => ret (.tuple ds.reverse)
  | _ => die
theorem DqAll.rev {F : Hp} : ∀ {vs : List V} {ds : List PyData}, DqAll K F vs ds → DqAll K F vs.reverse ds.reverse
  | _, _, .nil => .nil
  | _, _, .cons a t => by
    rw [List.reverse_cons, List.reverse_cons]
    exact DqAll.app (DqAll.rev t) (.cons a .nil)
theorem de_rev {e : Expr} {f : M PyData} {k : Nat} {p1 p2 p3 pos : Pos} (he : PE X e (tE X.K W f)) : PE X (.Subscript e (.Slice none none (some (.UnaryOp .USub (.Constant (.int 1) k p1) p2)) p3) pos) (tE X.K W (revE f)) := by
  refine ⟨fun pins s σ H Q I h => ?_⟩
  obtain ⟨ow, E, rr, z, hz, kk⟩ := h
  have hd : tE X.K W f σ H fun x H1 => ∃ a xs, x = .ref a ∧ SqT X.K H1 a xs ∧ TupNew xs.reverse H1 Q := by
    refine tE_bnd rr hz (fun c fs E1 e => by subst e; exact kk) fun d E1 h1 ow1 H1 v R1 S1 q1 => ?_
    cases q1 with
    | tup sq dd =>
      have ez := Option.some.inj h1
      subst ez
      exact ⟨_, _, rfl, Same.seqT frz_sub sq.sq, TupNew.of R1.tr (DqAll.rev dd) fun v H' s q => kk ow1 H' v (R1.grow s) (S1.trans (Stp.grow s)) q⟩
    | _ => cases h1
  refine Subscript_ (thn (he.run pins s σ H _ I hd) fun v s1 ⟨x, H1, I1, r1, a, xs, ex, hx, q⟩ => ?_)
  subst ex
  cases r1
  have hst : PO X (some (.UnaryOp .USub (.Constant (.int 1) k p1) p2)) (tPart (tUn (rU fun i => .int (-i)) (tC (.int 1)))) := po_some (pe_un un_neg pe_int)
  refine wpAny_Slice (thn (po_none.run pins s1 σ H1 (fun o H2 => o = none ∧ H2 = H1) I1 ⟨rfl, rfl⟩) fun vl s2 ⟨l, H2, I2, pl, el, e2⟩ => ?_)
  subst el
  subst e2
  refine thn (po_none.run pins s2 σ H2 (fun o H3 => o = none ∧ H3 = H2) I2 ⟨rfl, rfl⟩) fun vu s3 ⟨u, H3, I3, pu, eu, e3⟩ => ?_
  subst eu
  subst e3
  refine thn (hst.run pins s3 σ H3 (fun o H4 => o = some (-1) ∧ H4 = H3) I3 ⟨1, rfl, -1, rfl, rfl, rfl⟩) fun vs s4 ⟨o, H4, I4, ps, eo, e4⟩ => ?_
  subst eo
  subst e4
  have I5 : Inv X pins σ H4 { s4 with heap := s4.heap.push { cls := .type "slice", data := .fields #[vl, vu, vs] } } := I4.kept (t' := s4.toks) fun b ob q => Heap.get?_push_of_some _ q
  obtain ⟨its, r, ht, few⟩ := I5.tuple hx
  have el : vl = .none := by cases pl; rfl
  have eu : vu = .none := by cases pu; rfl
  subst el
  subst eu
  show wpAny (model X.prog X.w) X.A (subscriptTail e (.Slice none none (some (.UnaryOp .USub (.Constant (.int 1) k p1) p2)) p3) (.ref a) (.ref s4.heap.objs.size)) (EP X pins σ Q) X.xe { s4 with heap := s4.heap.push { cls := .type "slice", data := .fields #[.none, .none, vs] } }
  refine tail_any (ops := [.ref a, .ref s4.heap.objs.size]) ht.typeIs (PyProof.Rows.slot_tuple_getitem.lookup) ?_ (by with_unfolding_all rfl)
  refine rev_item ht (Heap.IsSliceOf.new _ .none .none vs) ps ?_ (by rw [List.size_toArray, ← r.length]; exact few)
  exact tup_laid I5 r.reverse (by rw [List.length_reverse]; exact few) q
def upE (f : M PyData) : M PyData := bnd f fun d => match d with
  | .str x => if x.length ≤ 5592405 then ret (.str (Txt.upper x)) else die
  | _ => die
theorem de_upper {e : Expr} {f : M PyData} {apos pos : Pos} (he : PE X e (tE X.K W f)) (hbase : attributeBase e "upper" X.env (eval e X.env) = eval e X.env := by rfl) (hline : (apos.endLine == pos.line) = true := by rfl) {x : Str} (ex : x = "upper" := by rfl) : PE X (.Call (.Attribute e x apos) [] [] pos) (tE X.K W (upE f)) := by
  subst ex
  refine PE.imp (pe_upper he hbase hline) fun σ H Q h => ?_
  obtain ⟨ow, E, rr, z, hz, kk⟩ := h
  show tE X.K W f σ H _
  refine tE_bnd rr hz (fun c fs E1 e => by subst e; exact kk) fun d E1 h1 ow1 H1 v R1 S1 q1 => ?_
  cases q1 with
  | str x =>
    obtain ⟨hl, h1⟩ := lim_some h1
    have ez := Option.some.inj h1
    subst ez
    exact ⟨⟨x, rfl⟩, x, rfl, rfl, hl, kk ow1 H1 _ R1 S1 (.str _)⟩
  | _ => cases h1
/-- nothing is promised -/
theorem dss_dead {st : List Stmt} : PSs X st (tS X.K W fun _ => none) := ⟨fun pins s D σ H I h => by
    obtain ⟨ow, E, rr, o, ho, k⟩ := h
    cases ho⟩
end
end Sa

set_option maxHeartbeats 4000000
/-! The slots along a block of lambdas. -/
namespace Sa
open PySem PySem.Spec PyProof.Rows L2 He NdefX RZ
section
variable {K : PySem.W.Frag} {ow : Ow} {E : En} {σ : L2.St} {H H1 : Hp}
/-- the slot that stands for a table is given some value -/
theorem R.setTab {i : Nat} {P : Addr} {q : Str} {v : Option V} (r : R K ow E σ H) (h : E[i]? = some (.tab P q)) : R K ow E (σ.set i v) H := by
  refine ⟨r.tr, by rw [List.length_set]; exact r.ln, fun j s o h1 h2 => ?_⟩
  by_cases e : i = j
  · subst e
    rw [h] at h1
    cases h1
    obtain ⟨hl, _⟩ := List.getElem?_eq_some_iff.mp h
    have z := r.sl i _ _ h (List.getElem?_eq_getElem (by rw [← r.ln]; exact hl))
    exact z
  · rw [List.getElem?_set_ne e] at h2
    exact r.sl j s o h1 h2
/-- the data alone, seen from a callee -/
def dats (E : En) : En := E.map fun s => match s with
  | .dat d => .dat d
  | _ => .un
theorem dats_get {i : Nat} {d : PyData} (h : E[i]? = some (.dat d)) : (dats E)[i]? = some (.dat d) := by
  unfold dats
  rw [List.getElem?_map, h]
  rfl
theorem R.dats (r : R K ow E σ H) : R K (out0 ow) (dats E) σ H := by
  refine ⟨fun b e => r.tr b fun z => e (out0_none.mpr z), by unfold Sa.dats; rw [List.length_map]; exact r.ln, fun i s o h1 h2 => ?_⟩
  unfold Sa.dats at h1
  rw [List.getElem?_map] at h1
  cases q : E[i]? with
  | none =>
    rw [q] at h1
    cases h1
  | some s0 =>
    rw [q] at h1
    have z := r.sl i s0 o q h2
    cases s0 with
    | dat d =>
      cases h1
      obtain ⟨v, e1, z⟩ := z
      exact ⟨v, e1, by rw [frz_out0]; exact z⟩
    | un =>
      cases h1
      trivial
    | own ds =>
      cases h1
      trivial
    | drw p s =>
      cases h1
      trivial
    | tab p q =>
      cases h1
      trivial
/-- a lambda is made in a state of data; the table's slot keeps it -/
theorem tLam_R {P : Addr} {q : Str} {w : Nat} {params : Arguments} {body : Expr} {scope : Scope} {clo : List (Str × Addr)} {Q : VK} (r : R K ow E σ H) (hw : E[w]? = some (.tab P q))
    (h : ∀ (f c' : Addr) (H' : Hp), R K ow E σ H' → Stp ow ow H H' → ButP P H H' → H f = none → H' f = some (LamO q params body scope clo f c') → H' c' = some (LamX.CodeO c' q) → Q (.ref f) H') : tLam P q params body scope clo σ H Q := by
  have tab : ∃ ps, H P = some (.tbl ps) ∧ TabF (frz ow H) ps q := by
    obtain ⟨hl, _⟩ := List.getElem?_eq_some_iff.mp hw
    obtain ⟨_, ps, e2, t⟩ := r.sl w _ _ hw (List.getElem?_eq_getElem (by rw [← r.ln]; exact hl))
    exact ⟨ps, e2, t⟩
  obtain ⟨ps, hP, t⟩ := tab
  refine ⟨ps, hP, t.same frz_sub, fun f c' H1 ps' k hP1 ok hc nf hco => ?_⟩
  obtain ⟨r1, s1⟩ := r.lam hw hP k hP1 ok hc hco
  have n0 : H f = none := by
    cases y : H f with
    | none => rfl
    | some u =>
      by_cases e : f = P
      · rw [e, hP1] at nf
        cases nf
      · rw [k f u e y] at nf
        cases nf
  refine h f c' _ (r1.new nf) (s1.trans (Stp.new nf)) (fun b o nb hb => ?_) n0 upd_same ?_
  · rw [upd_ne (ne_of_none (k b o nb hb) nf)]
    exact k b o nb hb
  · rw [upd_ne (ne_of_none hco nf)]
    exact hco
/-- a list that belongs to the slot w grows -/
theorem R.grows {P L : Addr} {q : Str} {w : Nat} {vs : List V} (r : R K ow E σ H) (hw : E[w]? = some (.tab P q)) (hL : ow L = some (w + 1)) (nP : L ≠ P) : R K ow E σ (upd H L (.lst vs)) ∧ Stp ow ow H (upd H L (.lst vs)) := by
  have hf : frz ow (upd H L (.lst vs)) = frz ow H := frz_upd (by rw [hL]; simp)
  refine ⟨⟨fun b e => ?_, r.ln, fun j s o h1 h2 => ?_⟩, fun b o hb e => ⟨?_, e⟩, fun b o hb e => ⟨?_, e⟩, fun _ e => e⟩
  · by_cases q : b = L
    · rw [q, upd_same]
      simp
    · rw [upd_ne q]
      exact r.tr b e
  · have z := r.sl j s o h1 h2
    by_cases ej : j = w
    · subst ej
      rw [hw] at h1
      cases h1
      obtain ⟨e1, ps, e2, t⟩ := z
      exact ⟨e1, ps, by rw [upd_ne (Ne.symm nP)]; exact e2, by rw [hf]; exact t⟩
    · have ne : ∀ {b : Addr}, ow b = some (j + 1) → b ≠ L := fun {b} hb e => by
        rw [e, hL] at hb
        have := Option.some.inj hb
        omega
      cases s with
      | un => trivial
      | dat d =>
        obtain ⟨v, e1, z⟩ := z
        exact ⟨v, e1, by rw [hf]; exact z⟩
      | own ds =>
        obtain ⟨c, us, e1, e2, e3, z⟩ := z
        exact ⟨c, us, e1, e2, by rw [upd_ne (ne e2)]; exact e3, by rw [hf]; exact z⟩
      | drw p st =>
        obtain ⟨e1, ⟨e2, e3, e4⟩, z0, z1, z2, z3⟩ := z
        exact ⟨e1, ⟨e2, e3, e4⟩, z0, by rw [upd_ne (ne e2)]; exact z1, by rw [upd_ne (ne e3)]; exact z2, by rw [upd_ne (ne e4)]; exact z3⟩
      | tab p q =>
        obtain ⟨e1, ps, e2, z⟩ := z
        exact ⟨e1, ps, by rw [upd_ne (ne e1)]; exact e2, by rw [hf]; exact z⟩
  · rw [upd_ne fun z => by rw [z, hL] at e; cases e]
    exact hb
  · rw [upd_ne fun z => by rw [z, hL] at e; cases e]
    exact hb
end
end Sa

set_option maxHeartbeats 4000000
namespace K19
open PySem PySem.Spec PyProof.Rows L2 He Sa NdefX RZ
section
variable {P : Program} {w : World} {K : PySem.W.Frag} {mg : Str → Option Value} {base : Heap}
theorem small_at (T : Tx sx K mg) : ∃ t, mg "SMALL" = some (.str smallS t) := by
  obtain ⟨h, X, G⟩ := T.at_
  exact str_ok X G (ba T.chk).1
theorem kept_dq (T : Tx sx K mg) (H : Hp) : Dq K H (.ref (ga K "KEPT")) (.tuple (keptL.map .str)) := tupS_dq (ba (ba T.chk).2).1 (ba (ba (ba T.chk).2).2).1 H
theorem exc_at_BadProgram (T : Tx sx K mg) : (Fa.exc "BadProgram").ok K = true := (ba (ba (ba (ba T.chk).2).2).2).1
theorem exc_at_BadWord (T : Tx sx K mg) : (Fa.exc "BadWord").ok K = true := (ba (ba (ba (ba (ba T.chk).2).2).2).2).1
/-! is_name -/
abbrev N_is_name : List Str := ["thing", "letter"]
theorem sc_is_name : FnScope N_is_name ["thing"] (defScope sis_name) := ⟨rfl, rfl, rfl, by decide +kernel, rfl, by decide +kernel, by decide +kernel⟩
def g_is_name : SM := (seqS (ifS (orT (notT (asB (isiE "str" (getV 0)))) (orT (notT (asB (chD leD leD (ret (.int 1)) (lenVE 0) (ret (.int 8))))) (asB (m2 inE (getV 0) (ret (.tuple (keptL.map .str))))))) (retS (ret (.bool false))) nxS)
  (retS (calQ allQ (sqF (lcE [1] (.nm 1) (itF (.nm 1) (getV 0)) yesT (m2 inE (getV 1) (ret (.str smallS))))))))
def m_is_name : List PyData → Option FR := fnD g_is_name 2 1
theorem c_is_name (T : Tx sx K mg) : Cal P w K mg base "is_name" 1 ["thing"] (spF K m_is_name) :=
  T.calD (N := N_is_name) (g := g_is_name) 0 rfl (by decide +kernel) sc_is_name (fun _ _ _ _ _ _ us hl => match us, hl with | [_], _ => rfl) fun cdv A outer s H E hr => by
    exact (dss_cons (ds_if (PW.pt (dt_or (dt_not (dt_val (de_isi (tn := "str") (de_var (pv 0)) (T.free "isinstance") (T.free "str")))) (dt_or (dt_not (dt_ch op_leA ordD_ok op_leA ordD_ok de_int (de_lenV (pv 0) (T.free "len")) de_int)) (pw_or1 (dt_cmp (op_inA (u65 hr)) inE_ok (de_var (pv 0)) (de_k (pe_glob (v := .ref (ga K "KEPT")) rfl (T.glo "KEPT") rfl) (kept_dq T)) (by rfl)))))) (dss_one (ds_ret de_bl)) dss_nil)
    (dss_one (ds_ret (de_qB (cr_all rfl) allQ_ok (dq_f (df_lc (W' := E0) (own := [("letter", 1)]) rfl sc_is_name.nd (di_e (de_var (pv 0))) (blkOk_by (N := N_is_name) (sc := defScope sis_name) (by decide +kernel)) (fun _ _ _ _ _ => (dg_name (pg_name (i := 1) sc_is_name.nd rfl (Or.inl rfl)))) (fun _ _ _ _ _ => dts_nil) (fun _ _ _ _ _ => (de_cmp (op_inA (u65 hr)) inE_ok (de_var (pv 1)) (de_k (pe_glob (v := .str smallS) rfl (small_at T).choose_spec ⟨_, rfl⟩) fun _ => .str _) (by rfl))))) (T.free "all")))))
/-! is_number -/
abbrev N_is_number : List Str := ["thing"]
theorem sc_is_number : FnScope N_is_number ["thing"] (defScope sis_number) := ⟨rfl, rfl, rfl, by decide +kernel, rfl, by decide +kernel, by decide +kernel⟩
def g_is_number : SM := (retS (andV (isiE "int" (getV 0)) (notV (isiE "bool" (getV 0)))))
def m_is_number : List PyData → Option FR := fnD g_is_number 1 1
theorem c_is_number (T : Tx sx K mg) : Cal P w K mg base "is_number" 1 ["thing"] (spF K m_is_number) :=
  T.calD (N := N_is_number) (g := g_is_number) 1 rfl (by decide +kernel) sc_is_number (fun _ _ _ _ _ _ us hl => match us, hl with | [_], _ => rfl) fun cdv A outer s H E hr => by
    exact (dss_one (ds_ret (de_and (de_isi (tn := "int") (de_var (pv 0)) (T.free "isinstance") (T.free "int")) (pe_one (de_not (de_isi (tn := "bool") (de_var (pv 0)) (T.free "isinstance") (T.free "bool")))))))
/-! are_names -/
abbrev N_are_names : List Str := ["thing", "most", "name"]
theorem sc_are_names : FnScope N_are_names ["thing", "most"] (defScope sare_names) := ⟨rfl, rfl, rfl, by decide +kernel, rfl, by decide +kernel, by decide +kernel⟩
def g_are_names : SM := (seqS (ifS (orT (notT (asB (isiE "tuple" (getV 0)))) (orT (notT (asB (chD leD leD (ret (.int 1)) (lenVE 0) (getV 1)))) (notT (asB (calQ allQ (sqF (lcE [2] (.nm 2) (itF (.nm 2) (getV 0)) yesT (callE m_is_name (consA (getV 2) nilA))))))))) (retS (ret (.bool false))) nxS)
  (retS (m2 eqD (lenSetE (lookV 0)) (lenVE 0))))
def m_are_names : List PyData → Option FR := fnD g_are_names 3 2
theorem c_are_names (T : Tx sx K mg) : Cal P w K mg base "are_names" 2 ["thing", "most"] (spF K m_are_names) :=
  T.calD (N := N_are_names) (g := g_are_names) 2 rfl (by decide +kernel) sc_are_names (fun _ _ _ _ _ _ us hl => match us, hl with | [_, _], _ => rfl) fun cdv A outer s H E hr => by
    exact (dss_cons (ds_if (PW.pt (dt_or (dt_not (dt_val (de_isi (tn := "tuple") (de_var (pv 0)) (T.free "isinstance") (T.free "tuple")))) (dt_or (dt_not (dt_ch op_leA ordD_ok op_leA ordD_ok de_int (de_lenV (pv 0) (T.free "len")) (de_var (pv 1)))) (pw_or1 (dt_not (dt_val (de_qB (cr_all rfl) allQ_ok (dq_f (df_lc (W' := E0) (own := [("name", 2)]) rfl sc_are_names.nd (di_e (de_var (pv 0))) (blkOk_by (N := N_are_names) (sc := defScope sare_names) (by decide +kernel)) (fun _ _ _ _ _ => (dg_name (pg_name (i := 2) sc_are_names.nd rfl (Or.inl rfl)))) (fun _ _ _ _ _ => dts_nil) (fun _ _ _ _ _ => (de_call (c_is_name T) hr (da_cons (de_var (pv 2)) da_nil))))) (T.free "all")))))))) (dss_one (ds_ret de_bl)) dss_nil)
    (dss_one (ds_ret (de_cmp (op_eqA hr.units) eqD_ok (de_lenSet (dq_var (pv 0)) (T.free "len") (T.free "set")) (de_lenV (pv 0) (T.free "len")) (nomark _)))))
/-! is_call -/
abbrev N_is_call : List Str := ["thing"]
theorem sc_is_call : FnScope N_is_call ["thing"] (defScope sis_call) := ⟨rfl, rfl, rfl, by decide +kernel, rfl, by decide +kernel, by decide +kernel⟩
def g_is_call : SM := (seqS (ifS (orT (notT (asB (isiE "tuple" (getV 0)))) (orT (asB (m2 neD (lenVE 0) (ret (.int 3)))) (orT (notT (asB (isiE "str" (ixV 0 (ret (.int 0)))))) (asB (m2 neD (ixV 0 (ret (.int 0))) (ret (.str "call"))))))) (retS (ret (.bool false))) nxS)
  (retS (andV (callE m_is_name (consA (ixV 0 (ret (.int 1))) nilA)) (callE m_are_names (consA (ixV 0 (ret (.int 2))) (consA (ret (.int 5)) nilA))))))
def m_is_call : List PyData → Option FR := fnD g_is_call 1 1
theorem c_is_call (T : Tx sx K mg) : Cal P w K mg base "is_call" 3 ["thing"] (spF K m_is_call) :=
  T.calD (N := N_is_call) (g := g_is_call) 3 rfl (by decide +kernel) sc_is_call (fun _ _ _ _ _ _ us hl => match us, hl with | [_], _ => rfl) fun cdv A outer s H E hr => by
    exact (dss_cons (ds_if (PW.pt (dt_or (dt_not (dt_val (de_isi (tn := "tuple") (de_var (pv 0)) (T.free "isinstance") (T.free "tuple")))) (dt_or (dt_cmp (op_neD hr.units) neD_ok (de_lenV (pv 0) (T.free "len")) de_int (nomark _)) (dt_or (dt_not (dt_val (de_isi (tn := "str") (de_ixV (pv 0) de_int (fun _ _ => rfl)) (T.free "isinstance") (T.free "str")))) (pw_or1 (dt_cmp (op_neD hr.units) neD_ok (de_ixV (pv 0) de_int (fun _ _ => rfl)) de_str (nomark _))))))) (dss_one (ds_ret de_bl)) dss_nil)
    (dss_one (ds_ret (de_and (de_call (c_is_name T) hr (da_cons (de_ixV (pv 0) de_int (fun _ _ => rfl)) da_nil)) (pe_one (de_call (c_are_names T) hr (da_cons (de_ixV (pv 0) de_int (fun _ _ => rfl)) (da_cons de_int da_nil))))))))
/-! is_house -/
abbrev N_is_house : List Str := ["thing", "call"]
theorem sc_is_house : FnScope N_is_house ["thing"] (defScope sis_house) := ⟨rfl, rfl, rfl, by decide +kernel, rfl, by decide +kernel, by decide +kernel⟩
def g_is_house : SM := (seqS (ifS (orT (notT (asB (isiE "tuple" (getV 0)))) (orT (asB (m2 neD (lenVE 0) (ret (.int 2)))) (orT (notT (asB (isiE "str" (ixV 0 (ret (.int 0)))))) (asB (m2 neD (ixV 0 (ret (.int 0))) (ret (.str "house"))))))) (retS (ret (.bool false))) nxS)
  (seqS (ifS (orT (notT (asB (isiE "tuple" (ixV 0 (ret (.int 1)))))) (orT (notT (asB (chD leD leD (ret (.int 1)) (calE (c1 lenD) (consA (ixV 0 (ret (.int 1))) nilA)) (ret (.int 5))))) (notT (asB (calQ allQ (sqF (lcE [1] (.nm 1) (itF (.nm 1) (ixV 0 (ret (.int 1)))) yesT (callE m_is_call (consA (getV 1) nilA))))))))) (retS (ret (.bool false))) nxS)
  (retS (m2 eqD (lenScE [1] (.nm 1) (itF (.nm 1) (ixV 0 (ret (.int 1)))) yesT (ixV 1 (ret (.int 1)))) (calE (c1 lenD) (consA (ixV 0 (ret (.int 1))) nilA))))))
def m_is_house : List PyData → Option FR := fnD g_is_house 2 1
theorem c_is_house (T : Tx sx K mg) : Cal P w K mg base "is_house" 4 ["thing"] (spF K m_is_house) :=
  T.calD (N := N_is_house) (g := g_is_house) 4 rfl (by decide +kernel) sc_is_house (fun _ _ _ _ _ _ us hl => match us, hl with | [_], _ => rfl) fun cdv A outer s H E hr => by
    exact (dss_cons (ds_if (PW.pt (dt_or (dt_not (dt_val (de_isi (tn := "tuple") (de_var (pv 0)) (T.free "isinstance") (T.free "tuple")))) (dt_or (dt_cmp (op_neD hr.units) neD_ok (de_lenV (pv 0) (T.free "len")) de_int (nomark _)) (dt_or (dt_not (dt_val (de_isi (tn := "str") (de_ixV (pv 0) de_int (fun _ _ => rfl)) (T.free "isinstance") (T.free "str")))) (pw_or1 (dt_cmp (op_neD hr.units) neD_ok (de_ixV (pv 0) de_int (fun _ _ => rfl)) de_str (nomark _))))))) (dss_one (ds_ret de_bl)) dss_nil)
    (dss_cons (ds_if (PW.pt (dt_or (dt_not (dt_val (de_isi (tn := "tuple") (de_ixV (pv 0) de_int (fun _ _ => rfl)) (T.free "isinstance") (T.free "tuple")))) (dt_or (dt_not (dt_ch op_leA ordD_ok op_leA ordD_ok de_int (de_calB call_len lenD_ok (da_cons (de_ixV (pv 0) de_int (fun _ _ => rfl)) da_nil) (T.free "len")) de_int)) (pw_or1 (dt_not (dt_val (de_qB (cr_all rfl) allQ_ok (dq_f (df_lc (W' := E0) (own := [("call", 1)]) rfl sc_is_house.nd (di_e (de_ixV (pv 0) de_int (fun _ _ => rfl))) (blkOk_by (N := N_is_house) (sc := defScope sis_house) (by decide +kernel)) (fun _ _ _ _ _ => (dg_name (pg_name (i := 1) sc_is_house.nd rfl (Or.inl rfl)))) (fun _ _ _ _ _ => dts_nil) (fun _ _ _ _ _ => (de_call (c_is_call T) hr (da_cons (de_var (pv 1)) da_nil))))) (T.free "all")))))))) (dss_one (ds_ret de_bl)) dss_nil)
    (dss_one (ds_ret (de_cmp (op_eqA hr.units) eqD_ok (de_lenSc (W' := E0) (own := [("call", 1)]) (T.free "len") rfl sc_is_house.nd (di_e (de_ixV (pv 0) de_int (fun _ _ => rfl))) (blkOk_by (N := N_is_house) (sc := defScope sis_house) (by decide +kernel)) (fun _ _ _ _ _ => (dg_name (pg_name (i := 1) sc_is_house.nd rfl (Or.inl rfl)))) (fun _ _ _ _ _ => dts_nil) (fun _ _ _ _ _ => (de_ixV (pv 1) de_int (fun _ _ => rfl)))) (de_calB call_len lenD_ok (da_cons (de_ixV (pv 0) de_int (fun _ _ => rfl)) da_nil) (T.free "len")) (nomark _))))))
/-! calls_of -/
abbrev N_calls_of : List Str := ["house", "call"]
theorem sc_calls_of : FnScope N_calls_of ["house"] (defScope scalls_of) := ⟨rfl, rfl, rfl, by decide +kernel, rfl, by decide +kernel, by decide +kernel⟩
def g_calls_of : SM := (retS (calQ tupQ (sqF (lcE [1] (.nm 1) (itF (.nm 1) (ixV 0 (ret (.int 1)))) yesT (ixV 1 (ret (.int 1)))))))
def m_calls_of : List PyData → Option FR := fnD g_calls_of 2 1
theorem c_calls_of (T : Tx sx K mg) : Cal P w K mg base "calls_of" 1 ["house"] (spF K m_calls_of) :=
  T.calD (N := N_calls_of) (g := g_calls_of) 5 rfl (by decide +kernel) sc_calls_of (fun _ _ _ _ _ _ us hl => match us, hl with | [_], _ => rfl) fun cdv A outer s H E hr => by
    exact (dss_one (ds_ret (de_qT call_tupleF tupQ_ok (dq_f (df_lc (W' := E0) (own := [("call", 1)]) rfl sc_calls_of.nd (di_e (de_ixV (pv 0) de_int (fun _ _ => rfl))) (blkOk_by (N := N_calls_of) (sc := defScope scalls_of) (by decide +kernel)) (fun _ _ _ _ _ => (dg_name (pg_name (i := 1) sc_calls_of.nd rfl (Or.inl rfl)))) (fun _ _ _ _ _ => dts_nil) (fun _ _ _ _ _ => (de_ixV (pv 1) de_int (fun _ _ => rfl))))) (T.free "tuple"))))
/-! answers_of -/
abbrev N_answers_of : List Str := ["house", "call"]
theorem sc_answers_of : FnScope N_answers_of ["house", "call"] (defScope sanswers_of) := ⟨rfl, rfl, rfl, by decide +kernel, rfl, by decide +kernel, by decide +kernel⟩
def g_answers_of : SM := (retS (m2 ixD (m2 ixD (ixV 0 (ret (.int 1))) (idxE (callE m_calls_of (consA (getV 0) nilA)) (getV 1))) (ret (.int 2))))
def m_answers_of : List PyData → Option FR := fnD g_answers_of 2 2
theorem c_answers_of (T : Tx sx K mg) : Cal P w K mg base "answers_of" 2 ["house", "call"] (spF K m_answers_of) :=
  T.calD (N := N_answers_of) (g := g_answers_of) 6 rfl (by decide +kernel) sc_answers_of (fun _ _ _ _ _ _ us hl => match us, hl with | [_, _], _ => rfl) fun cdv A outer s H E hr => by
    exact (dss_one (ds_ret (de_ix (de_ix (de_ixV (pv 0) de_int (fun _ _ => rfl)) (de_index (u65 hr) (de_call (c_calls_of T) hr (da_cons (de_var (pv 0)) da_nil)) (de_var (pv 1))) (fun _ _ => rfl)) de_int (fun _ _ => rfl))))
/-! is_call_name -/
abbrev N_is_call_name : List Str := ["house", "thing"]
theorem sc_is_call_name : FnScope N_is_call_name ["house", "thing"] (defScope sis_call_name) := ⟨rfl, rfl, rfl, by decide +kernel, rfl, by decide +kernel, by decide +kernel⟩
def g_is_call_name : SM := (retS (andV (isiE "str" (getV 1)) (m2 inE (getV 1) (callE m_calls_of (consA (getV 0) nilA)))))
def m_is_call_name : List PyData → Option FR := fnD g_is_call_name 2 2
theorem c_is_call_name (T : Tx sx K mg) : Cal P w K mg base "is_call_name" 2 ["house", "thing"] (spF K m_is_call_name) :=
  T.calD (N := N_is_call_name) (g := g_is_call_name) 7 rfl (by decide +kernel) sc_is_call_name (fun _ _ _ _ _ _ us hl => match us, hl with | [_, _], _ => rfl) fun cdv A outer s H E hr => by
    exact (dss_one (ds_ret (de_and (de_isi (tn := "str") (de_var (pv 1)) (T.free "isinstance") (T.free "str")) (pe_one (de_cmp (op_inA (u65 hr)) inE_ok (de_var (pv 1)) (de_call (c_calls_of T) hr (da_cons (de_var (pv 0)) da_nil)) (by rfl))))))
/-! is_answer -/
abbrev N_is_answer : List Str := ["house", "call", "thing"]
theorem sc_is_answer : FnScope N_is_answer ["house", "call", "thing"] (defScope sis_answer) := ⟨rfl, rfl, rfl, by decide +kernel, rfl, by decide +kernel, by decide +kernel⟩
def g_is_answer : SM := (retS (andV (isiE "str" (getV 2)) (m2 inE (getV 2) (callE m_answers_of (consA (getV 0) (consA (getV 1) nilA))))))
def m_is_answer : List PyData → Option FR := fnD g_is_answer 3 3
theorem c_is_answer (T : Tx sx K mg) : Cal P w K mg base "is_answer" 3 ["house", "call", "thing"] (spF K m_is_answer) :=
  T.calD (N := N_is_answer) (g := g_is_answer) 8 rfl (by decide +kernel) sc_is_answer (fun _ _ _ _ _ _ us hl => match us, hl with | [_, _, _], _ => rfl) fun cdv A outer s H E hr => by
    exact (dss_one (ds_ret (de_and (de_isi (tn := "str") (de_var (pv 2)) (T.free "isinstance") (T.free "str")) (pe_one (de_cmp (op_inA (u65 hr)) inE_ok (de_var (pv 2)) (de_call (c_answers_of T) hr (da_cons (de_var (pv 0)) (da_cons (de_var (pv 1)) da_nil))) (by rfl))))))
/-! is_word_of -/
abbrev N_is_word_of : List Str := ["house", "thing", "call"]
theorem sc_is_word_of : FnScope N_is_word_of ["house", "thing"] (defScope sis_word_of) := ⟨rfl, rfl, rfl, by decide +kernel, rfl, by decide +kernel, by decide +kernel⟩
def g_is_word_of : SM := (retS (andV (isiE "tuple" (getV 1)) (calQ allQ (sqF (lcE [2] (.nm 2) (itF (.nm 2) (getV 1)) yesT (callE m_is_call_name (consA (getV 0) (consA (getV 2) nilA))))))))
def m_is_word_of : List PyData → Option FR := fnD g_is_word_of 3 2
theorem c_is_word_of (T : Tx sx K mg) : Cal P w K mg base "is_word_of" 3 ["house", "thing"] (spF K m_is_word_of) :=
  T.calD (N := N_is_word_of) (g := g_is_word_of) 9 rfl (by decide +kernel) sc_is_word_of (fun _ _ _ _ _ _ us hl => match us, hl with | [_, _], _ => rfl) fun cdv A outer s H E hr => by
    exact (dss_one (ds_ret (de_and (de_isi (tn := "tuple") (de_var (pv 1)) (T.free "isinstance") (T.free "tuple")) (pe_one (de_qB (cr_all rfl) allQ_ok (dq_f (df_lc (W' := E0) (own := [("call", 2)]) rfl sc_is_word_of.nd (di_e (de_var (pv 1))) (blkOk_by (N := N_is_word_of) (sc := defScope sis_word_of) (by decide +kernel)) (fun _ _ _ _ _ => (dg_name (pg_name (i := 2) sc_is_word_of.nd rfl (Or.inl rfl)))) (fun _ _ _ _ _ => dts_nil) (fun _ _ _ _ _ => (de_call (c_is_call_name T) hr (da_cons (de_var (pv 0)) (da_cons (de_var (pv 2)) da_nil)))))) (T.free "all"))))))
/-! need_word -/
abbrev N_need_word : List Str := ["house", "word"]
theorem sc_need_word : FnScope N_need_word ["house", "word"] (defScope sneed_word) := ⟨rfl, rfl, rfl, by decide +kernel, rfl, by decide +kernel, by decide +kernel⟩
def g_need_word : SM := (ifS (notT (asB (callE m_is_word_of (consA (getV 0) (consA (getV 1) nilA))))) (raiseS "BadWord") nxS)
def m_need_word : List PyData → Option FR := fnD g_need_word 2 2
theorem c_need_word (T : Tx sx K mg) : Cal P w K mg base "need_word" 4 ["house", "word"] (spF K m_need_word) :=
  T.calD (N := N_need_word) (g := g_need_word) 10 rfl (by decide +kernel) sc_need_word (fun _ _ _ _ _ _ us hl => match us, hl with | [_, _], _ => rfl) fun cdv A outer s H E hr => by
    have x_BadWord := exc_at_BadWord T
    exact (dss_one (ds_if (dt_not (dt_val (de_call (c_is_word_of T) hr (da_cons (de_var (pv 0)) (da_cons (de_var (pv 1)) da_nil))))) (dss_one (ds_raise rfl (takes_of rfl rfl rfl rfl) (fun _ _ _ _ h => h) x_BadWord (T.glo "BadWord"))) dss_nil))
/-! is_pair -/
abbrev N_is_pair : List Str := ["house", "call", "many", "thing"]
theorem sc_is_pair : FnScope N_is_pair ["house", "call", "many", "thing"] (defScope sis_pair) := ⟨rfl, rfl, rfl, by decide +kernel, rfl, by decide +kernel, by decide +kernel⟩
def g_is_pair : SM := (seqS (ifS (orT (notT (asB (isiE "tuple" (getV 3)))) (orT (asB (m2 neD (lenVE 3) (ret (.int 2)))) (notT (asB (callE m_is_answer (consA (getV 0) (consA (getV 1) (consA (ixV 3 (ret (.int 0))) nilA)))))))) (retS (ret (.bool false))) nxS)
  (retS (andV (callE m_is_number (consA (ixV 3 (ret (.int 1))) nilA)) (chD leD ltD (ret (.int 0)) (ixV 3 (ret (.int 1))) (getV 2)))))
def m_is_pair : List PyData → Option FR := fnD g_is_pair 4 4
theorem c_is_pair (T : Tx sx K mg) : Cal P w K mg base "is_pair" 4 ["house", "call", "many", "thing"] (spF K m_is_pair) :=
  T.calD (N := N_is_pair) (g := g_is_pair) 11 rfl (by decide +kernel) sc_is_pair (fun _ _ _ _ _ _ us hl => match us, hl with | [_, _, _, _], _ => rfl) fun cdv A outer s H E hr => by
    exact (dss_cons (ds_if (PW.pt (dt_or (dt_not (dt_val (de_isi (tn := "tuple") (de_var (pv 3)) (T.free "isinstance") (T.free "tuple")))) (dt_or (dt_cmp (op_neD hr.units) neD_ok (de_lenV (pv 3) (T.free "len")) de_int (nomark _)) (pw_or1 (dt_not (dt_val (de_call (c_is_answer T) hr (da_cons (de_var (pv 0)) (da_cons (de_var (pv 1)) (da_cons (de_ixV (pv 3) de_int (fun _ _ => rfl)) da_nil)))))))))) (dss_one (ds_ret de_bl)) dss_nil)
    (dss_one (ds_ret (de_and (de_call (c_is_number T) hr (da_cons (de_ixV (pv 3) de_int (fun _ _ => rfl)) da_nil)) (pe_one (de_ch op_leA ordD_ok op_ltA ordD_ok de_int (de_ixV (pv 3) de_int (fun _ _ => rfl)) (de_var (pv 2))))))))
/-! is_program -/
abbrev N_is_program : List Str := ["thing", "calls", "many", "row", "call", "pair"]
theorem sc_is_program : FnScope N_is_program ["thing"] (defScope sis_program) := ⟨rfl, rfl, rfl, by decide +kernel, rfl, by decide +kernel, by decide +kernel⟩
def g_is_program : SM := (seqS (ifS (orT (notT (asB (isiE "tuple" (getV 0)))) (orT (asB (m2 neD (lenVE 0) (ret (.int 3)))) (orT (notT (asB (isiE "str" (ixV 0 (ret (.int 0)))))) (asB (m2 neD (ixV 0 (ret (.int 0))) (ret (.str "program"))))))) (retS (ret (.bool false))) nxS)
  (seqS (ifS (orT (notT (asB (callE m_is_house (consA (ixV 0 (ret (.int 1))) nilA)))) (orT (notT (asB (isiE "tuple" (ixV 0 (ret (.int 2)))))) (asB (m2 eqD (ixV 0 (ret (.int 2))) (tupE nilA))))) (retS (ret (.bool false))) nxS)
  (seqS (asgS (.tp [.nm 1, .nm 2]) (tupE (consA (callE m_calls_of (consA (ixV 0 (ret (.int 1))) nilA)) (consA (calE (c1 lenD) (consA (ixV 0 (ret (.int 2))) nilA)) nilA))))
  (seqS (loopS (.nm 3) (itF (.nm 3) (ixV 0 (ret (.int 2)))) (seqS (ifS (orT (notT (asB (isiE "tuple" (getV 3)))) (asB (m2 neD (lenVE 3) (lenVE 1)))) (retS (ret (.bool false))) nxS)
  (ifS (notT (asB (calQ allQ (sqF (lcE [4, 5] (.tp [.nm 4, .nm 5]) (zipE (consA (getV 1) (consA (getV 3) nilA))) yesT (callE m_is_pair (consA (ixV 0 (ret (.int 1))) (consA (getV 4) (consA (getV 2) (consA (getV 5) nilA)))))))))) (retS (ret (.bool false))) nxS)))
  (retS (ret (.bool true)))))))
def m_is_program : List PyData → Option FR := fnD g_is_program 6 1
theorem c_is_program (T : Tx sx K mg) : Cal P w K mg base "is_program" 5 ["thing"] (spF K m_is_program) :=
  T.calD (N := N_is_program) (g := g_is_program) 12 rfl (by decide +kernel) sc_is_program (fun _ _ _ _ _ _ us hl => match us, hl with | [_], _ => rfl) fun cdv A outer s H E hr => by
    exact (dss_cons (ds_if (PW.pt (dt_or (dt_not (dt_val (de_isi (tn := "tuple") (de_var (pv 0)) (T.free "isinstance") (T.free "tuple")))) (dt_or (dt_cmp (op_neD hr.units) neD_ok (de_lenV (pv 0) (T.free "len")) de_int (nomark _)) (dt_or (dt_not (dt_val (de_isi (tn := "str") (de_ixV (pv 0) de_int (fun _ _ => rfl)) (T.free "isinstance") (T.free "str")))) (pw_or1 (dt_cmp (op_neD hr.units) neD_ok (de_ixV (pv 0) de_int (fun _ _ => rfl)) de_str (nomark _))))))) (dss_one (ds_ret de_bl)) dss_nil)
    (dss_cons (ds_if (PW.pt (dt_or (dt_not (dt_val (de_call (c_is_house T) hr (da_cons (de_ixV (pv 0) de_int (fun _ _ => rfl)) da_nil)))) (dt_or (dt_not (dt_val (de_isi (tn := "tuple") (de_ixV (pv 0) de_int (fun _ _ => rfl)) (T.free "isinstance") (T.free "tuple")))) (pw_or1 (dt_cmp (op_eqA hr.units) eqD_ok (de_ixV (pv 0) de_int (fun _ _ => rfl)) (de_tup da_nil) (nomark _)))))) (dss_one (ds_ret de_bl)) dss_nil)
    (dss_cons (ds_asg (own := [1, 2]) (de_tup (da_cons (de_call (c_calls_of T) hr (da_cons (de_ixV (pv 0) de_int (fun _ _ => rfl)) da_nil)) (da_cons (de_calB call_len lenD_ok (da_cons (de_ixV (pv 0) de_int (fun _ _ => rfl)) da_nil) (T.free "len")) da_nil))) (dg_tup rfl (dgs_cons (dg_name (pg_name (i := 1) sc_is_program.nd rfl (Or.inl rfl))) (dgs_cons (dg_name (pg_name (i := 2) sc_is_program.nd rfl (Or.inr rfl))) dgs_nil))))
    (dss_cons (ds_for (own := [3]) (passes_of rfl) rfl (di_e (de_ixV (pv 0) de_int (fun _ _ => rfl))) (dg_name (pg_name (i := 3) sc_is_program.nd rfl (Or.inl rfl))) (dss_cons (ds_if (PW.pt (dt_or (dt_not (dt_val (de_isi (tn := "tuple") (de_var (pv 3)) (T.free "isinstance") (T.free "tuple")))) (pw_or1 (dt_cmp (op_neD hr.units) neD_ok (de_lenV (pv 3) (T.free "len")) (de_lenV (pv 1) (T.free "len")) (nomark _))))) (dss_one (ds_ret de_bl)) dss_nil)
    (dss_one (ds_if (dt_not (dt_val (de_qB (cr_all rfl) allQ_ok (dq_f (df_lc (W' := E0) (own := [("call", 4), ("pair", 5)]) rfl sc_is_program.nd (di_zip (T.free "zip") (da_cons (de_var (pv 1)) (da_cons (de_var (pv 3)) da_nil))) (blkOk_by (N := N_is_program) (sc := defScope sis_program) (by decide +kernel)) (fun _ _ _ _ _ => (dg_tup rfl (dgs_cons (dg_name (pg_name (i := 4) sc_is_program.nd rfl (Or.inl rfl))) (dgs_cons (dg_name (pg_name (i := 5) sc_is_program.nd rfl (Or.inl rfl))) dgs_nil)))) (fun _ _ _ _ _ => dts_nil) (fun _ _ _ _ _ => (de_call (c_is_pair T) hr (da_cons (de_ixV (pv 0) de_int (fun _ _ => rfl)) (da_cons (de_var (pv 4)) (da_cons (de_var (pv 2)) (da_cons (de_var (pv 5)) da_nil)))))))) (T.free "all")))) (dss_one (ds_ret de_bl)) dss_nil))))
    (dss_one (ds_ret de_bl))))))
/-! need_program -/
abbrev N_need_program : List Str := ["program"]
theorem sc_need_program : FnScope N_need_program ["program"] (defScope sneed_program) := ⟨rfl, rfl, rfl, by decide +kernel, rfl, by decide +kernel, by decide +kernel⟩
def g_need_program : SM := (ifS (notT (asB (callE m_is_program (consA (getV 0) nilA)))) (raiseS "BadProgram") nxS)
def m_need_program : List PyData → Option FR := fnD g_need_program 1 1
theorem c_need_program (T : Tx sx K mg) : Cal P w K mg base "need_program" 6 ["program"] (spF K m_need_program) :=
  T.calD (N := N_need_program) (g := g_need_program) 13 rfl (by decide +kernel) sc_need_program (fun _ _ _ _ _ _ us hl => match us, hl with | [_], _ => rfl) fun cdv A outer s H E hr => by
    have x_BadProgram := exc_at_BadProgram T
    exact (dss_one (ds_if (dt_not (dt_val (de_call (c_is_program T) hr (da_cons (de_var (pv 0)) da_nil)))) (dss_one (ds_raise rfl (takes_of rfl rfl rfl rfl) (fun _ _ _ _ h => h) x_BadProgram (T.glo "BadProgram"))) dss_nil))
/-! run -/
abbrev N_run : List Str := ["program", "word", "calls", "state", "found", "call", "answer"]
theorem sc_run : FnScope N_run ["program", "word"] (defScope srun) := ⟨rfl, rfl, rfl, by decide +kernel, rfl, by decide +kernel, by decide +kernel⟩
def g_run : SM := (seqS (parS [2, 3, 4] [.e (callE m_calls_of (consA (ixV 0 (ret (.int 1))) nilA)), .e (ret (.int 0)), .l (lstE nilA)])
  (seqS (loopS (.nm 5) (itF (.nm 5) (getV 1)) (seqS (asgS (.tp [.nm 6, .nm 3]) (m2 ixD (m2 ixD (ixV 0 (ret (.int 2))) (getV 3)) (idxE (getV 2) (getV 5))))
  (exprS (mutV 4 appM (consA (tupE (consA (getV 5) (consA (getV 6) nilA))) nilA)))))
  (retS (tupE (consA (calQ tupQ (lookV 4)) (consA (getV 3) nilA))))))
def m_run : List PyData → Option FR := fnD g_run 7 2
theorem c_run (T : Tx sx K mg) : Cal P w K mg base "run" 2 ["program", "word"] (spF K m_run) :=
  T.calD (N := N_run) (g := g_run) 14 rfl (by decide +kernel) sc_run (fun _ _ _ _ _ _ us hl => match us, hl with | [_, _], _ => rfl) fun cdv A outer s H E hr => by
    exact (dss_cons (ds_par3 (i := 2) (j := 3) (l := 4) rfl sc_run.nd rfl rfl rfl (by decide) (by decide) (by decide) rfl rfl rfl (dr_e (de_call (c_calls_of T) hr (da_cons (de_ixV (pv 0) de_int (fun _ _ => rfl)) da_nil)) (dr_e de_int (dr_l (df_lst da_nil) dr_nil))) (by rfl))
    (dss_cons (ds_for (own := [5]) (passes_of rfl) rfl (di_e (de_var (pv 1))) (dg_name (pg_name (i := 5) sc_run.nd rfl (Or.inl rfl))) (dss_cons (ds_asg (own := [6, 3]) (de_ix (de_ix (de_ixV (pv 0) de_int (fun _ _ => rfl)) (de_var (pv 3)) (fun _ _ => rfl)) (de_index (u65 hr) (de_var (pv 2)) (de_var (pv 5))) (fun _ _ => rfl)) (dg_tup rfl (dgs_cons (dg_name (pg_name (i := 6) sc_run.nd rfl (Or.inl rfl))) (dgs_cons (dg_name (pg_name (i := 3) sc_run.nd rfl (Or.inl rfl))) dgs_nil))))
    (dss_one (ds_expr (de_mut PySem.F.slot_list_append PySem.F.type_list_append mt_append appM_ok (pv 4) (da_cons (de_tup (da_cons (de_var (pv 5)) (da_cons (de_var (pv 6)) da_nil))) da_nil))))))
    (dss_one (ds_ret (de_tup (da_cons (de_qT call_tupleF tupQ_ok (dq_var (pv 4)) (T.free "tuple")) (da_cons (de_var (pv 3)) da_nil)))))))
/-! history -/
abbrev N_history : List Str := ["program", "word"]
theorem sc_history : FnScope N_history ["program", "word"] (defScope shistory) := ⟨rfl, rfl, rfl, by decide +kernel, rfl, by decide +kernel, by decide +kernel⟩
def g_history : SM := (seqS (exprS (callX m_need_program (consA (getV 0) nilA)))
  (seqS (exprS (callX m_need_word (consA (ixV 0 (ret (.int 1))) (consA (getV 1) nilA))))
  (retS (m2 ixD (callE m_run (consA (getV 0) (consA (getV 1) nilA))) (ret (.int 0))))))
def m_history : List PyData → Option FR := fnD g_history 2 2
theorem c_history (T : Tx sx K mg) : Cal P w K mg base "history" 7 ["program", "word"] (spF K m_history) :=
  T.calD (N := N_history) (g := g_history) 15 rfl (by decide +kernel) sc_history (fun _ _ _ _ _ _ us hl => match us, hl with | [_, _], _ => rfl) fun cdv A outer s H E hr => by
    have pass := passes_call (X := cxOf (L2.CX P w) P w K mg base N_history "history" (defScope shistory) (ga K "history") cdv A outer s H E) (W := fun cls d _ H => E cls d H) (takes_of rfl rfl rfl rfl) fun _ _ _ _ h => h
    exact (dss_cons (ds_expr (de_callX (c_need_program T) hr (da_cons (de_var (pv 0)) da_nil) pass))
    (dss_cons (ds_expr (de_callX (c_need_word T) hr (da_cons (de_ixV (pv 0) de_int (fun _ _ => rfl)) (da_cons (de_var (pv 1)) da_nil)) pass))
    (dss_one (ds_ret (de_ix (de_call (c_run T) hr (da_cons (de_var (pv 0)) (da_cons (de_var (pv 1)) da_nil))) de_int (fun _ _ => rfl))))))
/-! answers -/
abbrev N_answers : List Str := ["program", "word", "call", "answer"]
theorem sc_answers : FnScope N_answers ["program", "word"] (defScope sanswers) := ⟨rfl, rfl, rfl, by decide +kernel, rfl, by decide +kernel, by decide +kernel⟩
def g_answers : SM := (retS (calQ tupQ (sqF (lcE [2, 3] (.tp [.nm 2, .nm 3]) (itF (.tp [.nm 2, .nm 3]) (callX m_history (consA (getV 0) (consA (getV 1) nilA)))) yesT (getV 3)))))
def m_answers : List PyData → Option FR := fnD g_answers 4 2
theorem c_answers (T : Tx sx K mg) : Cal P w K mg base "answers" 8 ["program", "word"] (spF K m_answers) :=
  T.calD (N := N_answers) (g := g_answers) 16 rfl (by decide +kernel) sc_answers (fun _ _ _ _ _ _ us hl => match us, hl with | [_, _], _ => rfl) fun cdv A outer s H E hr => by
    have pass := passes_call (X := cxOf (L2.CX P w) P w K mg base N_answers "answers" (defScope sanswers) (ga K "answers") cdv A outer s H E) (W := fun cls d _ H => E cls d H) (takes_of rfl rfl rfl rfl) fun _ _ _ _ h => h
    exact (dss_one (ds_ret (de_qT call_tupleF tupQ_ok (dq_f (df_lc (W' := E0) (own := [("call", 2), ("answer", 3)]) rfl sc_answers.nd (di_e (de_callX (c_history T) hr (da_cons (de_var (pv 0)) (da_cons (de_var (pv 1)) da_nil)) pass)) (blkOk_by (N := N_answers) (sc := defScope sanswers) (by decide +kernel)) (fun _ _ _ _ _ => (dg_tup rfl (dgs_cons (dg_name (pg_name (i := 2) sc_answers.nd rfl (Or.inl rfl))) (dgs_cons (dg_name (pg_name (i := 3) sc_answers.nd rfl (Or.inl rfl))) dgs_nil)))) (fun _ _ _ _ _ => dts_nil) (fun _ _ _ _ _ => (de_var (pv 3))))) (T.free "tuple"))))
/-! state_behind -/
abbrev N_state_behind : List Str := ["program", "word"]
theorem sc_state_behind : FnScope N_state_behind ["program", "word"] (defScope sstate_behind) := ⟨rfl, rfl, rfl, by decide +kernel, rfl, by decide +kernel, by decide +kernel⟩
def g_state_behind : SM := (seqS (exprS (callX m_need_program (consA (getV 0) nilA)))
  (seqS (exprS (callX m_need_word (consA (ixV 0 (ret (.int 1))) (consA (getV 1) nilA))))
  (retS (m2 ixD (callE m_run (consA (getV 0) (consA (getV 1) nilA))) (ret (.int 1))))))
def m_state_behind : List PyData → Option FR := fnD g_state_behind 2 2
theorem c_state_behind (T : Tx sx K mg) : Cal P w K mg base "state_behind" 7 ["program", "word"] (spF K m_state_behind) :=
  T.calD (N := N_state_behind) (g := g_state_behind) 17 rfl (by decide +kernel) sc_state_behind (fun _ _ _ _ _ _ us hl => match us, hl with | [_, _], _ => rfl) fun cdv A outer s H E hr => by
    have pass := passes_call (X := cxOf (L2.CX P w) P w K mg base N_state_behind "state_behind" (defScope sstate_behind) (ga K "state_behind") cdv A outer s H E) (W := fun cls d _ H => E cls d H) (takes_of rfl rfl rfl rfl) fun _ _ _ _ h => h
    exact (dss_cons (ds_expr (de_callX (c_need_program T) hr (da_cons (de_var (pv 0)) da_nil) pass))
    (dss_cons (ds_expr (de_callX (c_need_word T) hr (da_cons (de_ixV (pv 0) de_int (fun _ _ => rfl)) (da_cons (de_var (pv 1)) da_nil)) pass))
    (dss_one (ds_ret (de_ix (de_call (c_run T) hr (da_cons (de_var (pv 0)) (da_cons (de_var (pv 1)) da_nil))) de_int (fun _ _ => rfl))))))
end
end K19

set_option maxHeartbeats 4000000
/-! The data layer: what a reading yields (plain; no program in sight). -/
namespace Sa
open PySem PySem.Spec PyProof.Rows L2 He NdefX RZ
/-- f yields, and then Q -/
def Wp {α : Type} (f : M α) (E : En) (Q : α → En → Prop) : Prop := ∃ a E', f E = some (.ok a E') ∧ Q a E'
def Ws (g : SM) (E : En) (Q : Out → Prop) : Prop := ∃ o, g E = some o ∧ Q o
section
variable {α β : Type} {E : En} {Q : α → En → Prop} {Qb : β → En → Prop} {R : Out → Prop}
def rzP {α : Type} (r : Option (Rz α)) (Q : α → En → Prop) : Prop := match r with
  | some (.ok a E') => Q a E'
  | _ => False
theorem wp_iff {f : M α} {r : Option (Rz α)} (h : f E = r) : Wp f E Q ↔ rzP r Q := by
  subst h
  unfold Wp
  constructor
  · rintro ⟨a, E', e, q⟩
    rw [e]
    exact q
  · intro q
    cases hr : f E with
    | none =>
      rw [hr] at q
      exact q.elim
    | some r =>
      rw [hr] at q
      cases r with
      | ok a E1 => exact ⟨a, E1, rfl, q⟩
      | ex c fs E1 => exact q.elim
theorem Wp.imp {f : M α} {Q' : α → En → Prop} (h : Wp f E Q) (k : ∀ a E, Q a E → Q' a E) : Wp f E Q' := let ⟨a, E', e, q⟩ := h; ⟨a, E', e, k _ _ q⟩
theorem Ws.imp {g : SM} {R' : Out → Prop} (h : Ws g E R) (k : ∀ o, R o → R' o) : Ws g E R' := let ⟨o, e, q⟩ := h; ⟨o, e, k _ q⟩
theorem wp_ret (a : α) : Wp (ret a) E Q ↔ Q a E := wp_iff rfl
theorem wp_bnd (m : M α) (k : α → M β) : Wp (bnd m k) E Qb ↔ Wp m E fun a E' => Wp (k a) E' Qb := by
  unfold Wp bnd
  constructor
  · rintro ⟨b, E2, e, q⟩
    cases h : m E with
    | none =>
      rw [h] at e
      cases e
    | some r =>
      rw [h] at e
      cases r with
      | ok a E1 => exact ⟨a, E1, rfl, b, E2, e, q⟩
      | ex c fs E1 => cases e
  · rintro ⟨a, E1, e1, b, E2, e2, q⟩
    rw [e1]
    exact ⟨b, E2, e2, q⟩
theorem wp_some (a : α) : Wp (ofO (some a)) E Q ↔ Q a E := wp_iff rfl
theorem wp_ofO (o : Option α) : Wp (ofO o) E Q ↔ ∃ a, o = some a ∧ Q a E := by
  cases o with
  | none => exact ⟨fun ⟨_, _, e, _⟩ => (nomatch e), fun ⟨_, e, _⟩ => (nomatch e)⟩
  | some a => exact ⟨fun h => ⟨a, rfl, (wp_some a).mp h⟩, fun ⟨b, e, q⟩ => by cases e; exact (wp_some a).mpr q⟩
theorem wp_ite (c : Prop) [Decidable c] (f : M α) : Wp (if c then f else die) E Q ↔ c ∧ Wp f E Q := by
  by_cases h : c
  · rw [if_pos h]
    exact ⟨fun q => ⟨h, q⟩, fun q => q.2⟩
  · rw [if_neg h]
    exact ⟨fun ⟨_, _, e, _⟩ => (nomatch e), fun q => absurd q.1 h⟩
variable {Qd : PyData → En → Prop}
theorem wp_getD {i : Nat} {d : PyData} (h : E[i]? = some (.dat d)) : Wp (getV i) E Qd ↔ Qd d E := by
  refine wp_iff (r := some (.ok d E)) ?_
  unfold getV
  rw [h]
theorem wp_m2 (op : PyData → PyData → Option PyData) (f g : M PyData) : Wp (m2 op f g) E Qd ↔ Wp f E fun d E1 => Wp g E1 fun e E2 => ∃ z, op d e = some z ∧ Qd z E2 := by
  unfold m2
  simp only [wp_bnd, wp_ofO]
theorem wp_m1 (op : PyData → Option PyData) (f : M PyData) : Wp (m1 op f) E Qd ↔ Wp f E fun d E1 => ∃ z, op d = some z ∧ Qd z E1 := by
  unfold m1
  simp only [wp_bnd, wp_ofO]
theorem ws_then (f : M α) (k : α → SM) (h : Wp f E fun a E1 => Ws (k a) E1 R) : Ws (thenS f k) E R := by
  obtain ⟨a, E1, e, o, e2, q⟩ := h
  exact ⟨o, by unfold thenS; rw [e]; exact e2, q⟩
theorem ws_seq {g h : SM} (k : Ws g E fun o => match o with | .nx E1 => Ws h E1 R | o => R o) : Ws (seqS g h) E R := by
  obtain ⟨o, e, q⟩ := k
  have e2 : seqS g h E = match some o with
    | some (.nx E1) => h E1
    | o => o := by
    unfold seqS
    rw [e] <;> cases o <;> rfl
  cases o with
  | nx E1 =>
    obtain ⟨o2, e3, q2⟩ := q
    exact ⟨o2, e2.trans e3, q2⟩
  | _ => exact ⟨_, e2, q⟩
theorem ws_nx (h : R (.nx E)) : Ws nxS E R := ⟨_, rfl, h⟩
theorem ws_ret {f : M PyData} (h : Wp f E fun d E1 => R (.rt d E1)) : Ws (retS f) E R := ws_then _ _ (h.imp fun d E1 q => ⟨_, rfl, q⟩)
theorem ws_if {c : M Bool} {g h : SM} (k : Wp c E fun b E1 => if b = true then Ws g E1 R else Ws h E1 R) : Ws (ifS c g h) E R := ws_then _ _ (k.imp fun b E1 q => by
  cases b with
  | true => exact q
  | false => exact q)
theorem ws_asg {t : Tg} {f : M PyData} (h : Wp f E fun d E1 => ∃ E2, setT t d E1 = some E2 ∧ R (.nx E2)) : Ws (asgS t f) E R := ws_then _ _ (h.imp fun d E1 ⟨E2, e, q⟩ => ⟨.nx E2, by show (setT t d E1).map Out.nx = _; rw [e]; rfl, q⟩)
theorem ws_own {i : Nat} {f : M (List PyData)} (h : Wp f E fun ds E1 => R (.nx (E1.set i (.own ds)))) : Ws (ownS i f) E R := ws_then _ _ (h.imp fun d E1 q => ⟨_, rfl, q⟩)
theorem ws_expr {f : M PyData} (h : Wp f E fun _ E1 => R (.nx E1)) : Ws (exprS f) E R := ws_then _ _ (h.imp fun d E1 q => ⟨_, rfl, q⟩)
/-- what a def answers -/
theorem fnD_ok {g : SM} {n np : Nat} {ds : List PyData} {d : PyData} (hl : ds.length = np) (h : Ws g (enOf n (ds.map .dat)) fun o => match o with | .rt z _ => z = d | .nx _ => d = .none | _ => False) : fnD g n np ds = some (.ok d) := by
  unfold fnD
  rw [if_pos hl]
  obtain ⟨o, e, q⟩ := h
  rw [e]
  cases o with
  | rt z E1 =>
    have q : z = d := q
    subst q
    rfl
  | nx E1 =>
    have q : d = .none := q
    subst q
    rfl
  | _ => exact q.elim
theorem fnW_ok {g : SM} {n np : Nat} {p : DrA} {s : DrS} {ds : List PyData} {C : PyData → DrS → Prop} (hl : ds.length + 1 = np) (h : Ws g (enOf n (.drw p s :: ds.map .dat)) fun o => match o with | .rt z E => ∃ s', drwAt p E = some s' ∧ C z s' | .nx E => ∃ s', drwAt p E = some s' ∧ C .none s' | _ => False) :
    ∃ d s', fnW g n np p s ds = some (d, s') ∧ C d s' := by
  unfold fnW
  rw [if_pos hl]
  obtain ⟨o, e, q⟩ := h
  rw [e]
  cases o with
  | rt z E1 =>
    obtain ⟨s', e1, c⟩ := q
    exact ⟨z, s', by show (drwAt p E1).map _ = _; rw [e1]; rfl, c⟩
  | nx E1 =>
    obtain ⟨s', e1, c⟩ := q
    exact ⟨.none, s', by show (drwAt p E1).map _ = _; rw [e1]; rfl, c⟩
  | _ => exact q.elim
theorem wp_callE {m : List PyData → Option FR} {f : M (List PyData)} (h : Wp f E fun ds E1 => ∃ d, m ds = some (.ok d) ∧ Qd d E1) : Wp (callE m f) E Qd := by
  unfold callE
  rw [wp_bnd]
  refine h.imp fun ds E1 ⟨d, e, q⟩ => ?_
  rw [e]
  exact (wp_ret d).mpr q
theorem wp_cons {f : M PyData} {g : M (List PyData)} {Q : List PyData → En → Prop} : Wp (consA f g) E Q ↔ Wp f E fun d E1 => Wp g E1 fun ds E2 => Q (d :: ds) E2 := by
  unfold consA
  simp only [wp_bnd, wp_ret]
theorem wp_nil {Q : List PyData → En → Prop} : Wp nilA E Q ↔ Q [] E := wp_ret _
theorem wp_asB {f : M PyData} {Q : Bool → En → Prop} (h : Wp f E fun d E1 => ∃ b, d = .bool b ∧ Q b E1) : Wp (asB f) E Q := by
  unfold asB
  rw [wp_bnd]
  refine h.imp fun d E1 ⟨b, e, q⟩ => ?_
  subst e
  exact (wp_ret b).mpr q
theorem wp_callW {m : DrA → DrS → List PyData → Option (PyData × DrS)} {i : Nat} {f : M (List PyData)} {p0 : DrA} {s0 : DrS} (h0 : E[i]? = some (.drw p0 s0)) (h : Wp f E fun ds E1 => ∃ p s, E1[i]? = some (.drw p s) ∧ ∃ d s', m p s ds = some (d, s') ∧ Qd d (E1.set i (.drw p s'))) : Wp (callW m i f) E Qd := by
  obtain ⟨ds, E1, e, p, s, h1, d, s', h2, q⟩ := h
  refine ⟨d, _, ?_, q⟩
  unfold callW
  rw [h0]
  show bnd f _ E = _
  unfold bnd
  rw [e]
  show (match E1[i]? with
    | some (.drw p s) => (match m p s ds with
      | some (d, s') => some (Rz.ok d (E1.set i (.drw p s')))
      | none => none)
    | _ => none) = _
  rw [h1]
  show (match m p s ds with
      | some (d, s') => some (Rz.ok d (E1.set i (.drw p s')))
      | none => none) = _
  rw [h2]
end
end Sa

set_option maxHeartbeats 4000000
/-! The data layer: what a reading yields, by its form. -/
namespace Sa
open PySem PySem.Spec PyProof.Rows L2 He NdefX RZ
section
variable {α β : Type} {E : En} {Q : PyData → En → Prop} {Qb : Bool → En → Prop} {Ql : List PyData → En → Prop} {R : Out → Prop}
theorem ex2 {α β : Type} {d : α} {E : β} {Q : α → β → Prop} : (∃ a E', (d = a ∧ E = E') ∧ Q a E') ↔ Q d E := ⟨fun ⟨_, _, ⟨e1, e2⟩, q⟩ => by subst e1; subst e2; exact q, fun q => ⟨_, _, ⟨rfl, rfl⟩, q⟩⟩
theorem ex2b {α β : Type} {d : α} {E : β} {b : Bool} {Q : Bool × α → β → Prop} : (∃ a E', (d = a ∧ E = E') ∧ Q (b, a) E') ↔ Q (b, d) E := ⟨fun ⟨_, _, ⟨e1, e2⟩, q⟩ => by subst e1; subst e2; exact q, fun q => ⟨_, _, ⟨rfl, rfl⟩, q⟩⟩
/-- behind the index or the operand k: the slot i -/
def kSl (op : PyData → PyData → Option PyData) (i : Nat) : PyData → M PyData := fun k E1 => match slotD E1[i]? with
  | some d => ofO (op d k) E1
  | none => none
theorem wp_kSl (op : PyData → PyData → Option PyData) (i : Nat) (k : PyData) : Wp (kSl op i k) E Q ↔ ∃ d, slotD E[i]? = some d ∧ ∃ z, op d k = some z ∧ Q z E := by
  constructor
  · rintro ⟨a, E2, e2, q⟩
    unfold kSl at e2
    cases hd : slotD E[i]? with
    | none =>
      rw [hd] at e2
      cases e2
    | some d =>
      rw [hd] at e2
      exact ⟨d, rfl, (wp_ofO _).mp ⟨a, E2, e2, q⟩⟩
  · rintro ⟨d, hd, q⟩
    obtain ⟨a, E2, e2, q⟩ := (wp_ofO _).mpr q
    exact ⟨a, E2, by unfold kSl; rw [hd]; exact e2, q⟩
theorem wp_getV (i : Nat) : Wp (getV i) E Q ↔ (match E[i]? with
    | some (.dat d) => Q d E
    | some (.own ds) => Q (.list ds) (E.set i (.dat (.list ds)))
    | _ => False) := by
  unfold Wp getV
  rcases h : E[i]? with _ | (_ | d | ds | ⟨p, s⟩ | ⟨p, s⟩) <;> simp [h, ex2]
theorem wp_lookV {Q : Bool × List PyData → En → Prop} (i : Nat) : Wp (lookV i) E Q ↔ (match E[i]? with
    | some (.dat (.list ds)) => Q (false, ds) E
    | some (.dat (.tuple ds)) => Q (true, ds) E
    | some (.own ds) => Q (false, ds) E
    | _ => False) := by
  unfold Wp lookV
  rcases h : E[i]? with _ | (_ | d | ds | ⟨p, s⟩ | ⟨p, s⟩)
  · simp [h]
  · simp [h]
  · cases d <;> simp [h, sqO, ex2b]
  · simp [h, ex2b]
  · simp [h]
  · simp [h]
theorem wp_asBi (f : M PyData) : Wp (asB f) E Qb ↔ Wp f E fun d E1 => (match d with
    | .bool b => Qb b E1
    | _ => False) := by
  unfold asB
  rw [wp_bnd]
  constructor <;> intro h <;> refine h.imp fun d E1 q => ?_ <;> cases d <;> first
    | exact (wp_ret _).mp q
    | exact (wp_ret _).mpr q
    | exact q.elim
    | (obtain ⟨_, _, e, _⟩ := q; cases e)
theorem wp_if {α : Type} {Q : α → En → Prop} (b : Bool) (f g : M α) : Wp (if b then f else g) E Q ↔ if b = true then Wp f E Q else Wp g E Q := by cases b <;> exact Iff.rfl
theorem wp_andT (f g : M Bool) : Wp (andT f g) E Qb ↔ Wp f E fun b E1 => if b = true then Wp g E1 Qb else Qb false E1 := by simp only [andT, wp_bnd, wp_if, wp_ret]
theorem wp_orT (f g : M Bool) : Wp (orT f g) E Qb ↔ Wp f E fun b E1 => if b = true then Qb true E1 else Wp g E1 Qb := by simp only [orT, wp_bnd, wp_if, wp_ret]
theorem wp_notT (f : M Bool) : Wp (notT f) E Qb ↔ Wp f E fun b E1 => Qb (!b) E1 := by simp only [notT, wp_bnd, wp_ret]
theorem wp_andV (f g : M PyData) : Wp (andV f g) E Q ↔ Wp (asB f) E fun b E1 => if b = true then Wp g E1 Q else Q (.bool false) E1 := by simp only [andV, wp_bnd, wp_if, wp_ret]
theorem wp_orV (f g : M PyData) : Wp (orV f g) E Q ↔ Wp (asB f) E fun b E1 => if b = true then Q (.bool true) E1 else Wp g E1 Q := by simp only [orV, wp_bnd, wp_if, wp_ret]
theorem wp_notV (f : M PyData) : Wp (notV f) E Q ↔ Wp (asB f) E fun b E1 => Q (.bool !b) E1 := by simp only [notV, wp_bnd, wp_ret]
theorem wp_ifE (c : M Bool) (f g : M PyData) : Wp (ifE c f g) E Q ↔ Wp c E fun b E1 => if b = true then Wp f E1 Q else Wp g E1 Q := by simp only [ifE, wp_bnd, wp_if]
theorem wp_isi (T : String) (f : M PyData) : Wp (isiE T f) E Q ↔ Wp f E fun d E1 => Q (.bool (isiB T d)) E1 := by simp only [isiE, wp_bnd, wp_ret]
theorem wp_tup (f : M (List PyData)) : Wp (tupE f) E Q ↔ Wp f E fun ds E1 => ds.length ≤ sizeLine ∧ Q (.tuple ds) E1 := by simp only [tupE, wp_bnd, wp_ite, wp_ret]
theorem wp_lst (f : M (List PyData)) : Wp (lstE f) E Ql ↔ Wp f E fun ds E1 => ds.length ≤ sizeLine ∧ Ql ds E1 := by simp only [lstE, wp_bnd, wp_ite, wp_ret]
theorem wp_frz (f : M (List PyData)) : Wp (frzE f) E Q ↔ Wp f E fun ds E1 => Q (.list ds) E1 := by simp only [frzE, wp_bnd, wp_ret]
theorem wp_calE (op : List PyData → Option PyData) (f : M (List PyData)) : Wp (calE op f) E Q ↔ Wp f E fun ds E1 => ∃ z, op ds = some z ∧ Q z E1 := by simp only [calE, wp_bnd, wp_ofO]
theorem wp_calQ (op : Bool × List PyData → Option PyData) (f : M (Bool × List PyData)) : Wp (calQ op f) E Q ↔ Wp f E fun ds E1 => ∃ z, op ds = some z ∧ Q z E1 := by simp only [calQ, wp_bnd, wp_ofO]
theorem wp_sqF {Q : Bool × List PyData → En → Prop} (f : M (List PyData)) : Wp (sqF f) E Q ↔ Wp f E fun ds E1 => Q (false, ds) E1 := by simp only [sqF, wp_bnd, wp_ret]
theorem wp_sqE {Q : Bool × List PyData → En → Prop} (f : M PyData) : Wp (sqE f) E Q ↔ Wp f E fun d E1 => ∃ z, sqO d = some z ∧ Q z E1 := by simp only [sqE, wp_bnd, wp_ofO]
theorem wp_listQ (f : M (Bool × List PyData)) : Wp (listQ f) E Ql ↔ Wp f E fun z E1 => Ql z.2 E1 := by simp only [listQ, wp_bnd, wp_ret]
theorem wp_lenV (i : Nat) : Wp (lenVE i) E Q ↔ ∃ d, slotD E[i]? = some d ∧ ∃ z, lenD d = some z ∧ Q z E := by
  unfold lenVE
  unfold Wp
  cases h : slotD E[i]? with
  | none => simp [h]
  | some d =>
    simp only [h, Option.some.injEq, exists_eq_left']
    exact wp_ofO _
theorem wp_ixV (i : Nat) (g : M PyData) : Wp (ixV i g) E Q ↔ (slotD E[i]?).isSome = true ∧ Wp g E fun k E1 => ∃ d, slotD E1[i]? = some d ∧ ∃ z, ixD d k = some z ∧ Q z E1 := by
  by_cases h : (slotD E[i]?).isSome = true
  · have e : Wp (ixV i g) E Q ↔ Wp (bnd g (kSl ixD i)) E Q := by
      unfold Wp ixV
      simp only [h, if_true]
      exact Iff.rfl
    rw [e, wp_bnd]
    simp only [wp_kSl]
    exact (and_iff_right h).symm
  · constructor
    · rintro ⟨a, E1, e, q⟩
      unfold ixV at e
      simp only [h] at e
      cases e
    · exact fun z => absurd z.1 h
theorem wp_ch (op op' : PyData → PyData → Option PyData) (f g k : M PyData) : Wp (chD op op' f g k) E Q ↔ Wp f E fun d E1 => Wp g E1 fun e E2 => (match op d e with
    | some (.bool true) => Wp k E2 fun z E3 => ∃ r, op' e z = some r ∧ Q r E3
    | some (.bool false) => Q (.bool false) E2
    | _ => False) := by
  unfold chD
  rw [wp_bnd]
  constructor <;> intro h <;> refine h.imp fun d E1 q => ?_
  all_goals
    rw [wp_bnd] at *
    refine q.imp fun e E2 q => ?_
    rcases ho : op d e with _ | (_ | (_ | _) | _ | _ | _ | _ | _) <;> simp only [ho, wp_bnd, wp_ofO, wp_ret] at q ⊢ <;> first
      | exact q
      | exact q.elim
      | (obtain ⟨_, _, e, _⟩ := q; cases e)
theorem wp_m2V (op : PyData → PyData → Option PyData) (i : Nat) (g : M PyData) : Wp (m2V op i g) E Q ↔ (slotD E[i]?).isSome = true ∧ Wp g E fun k E1 => ∃ d, slotD E1[i]? = some d ∧ ∃ z, op d k = some z ∧ Q z E1 := by
  by_cases h : (slotD E[i]?).isSome = true
  · have e : Wp (m2V op i g) E Q ↔ Wp (bnd g (kSl op i)) E Q := by
      unfold Wp m2V
      simp only [h, if_true]
      exact Iff.rfl
    rw [e, wp_bnd]
    simp only [wp_kSl]
    exact (and_iff_right h).symm
  · constructor
    · rintro ⟨a, E1, e, q⟩
      unfold m2V at e
      simp only [h] at e
      cases e
    · exact fun z => absurd z.1 h
theorem wp_m2W (op : PyData → PyData → Option PyData) (f : M PyData) (i : Nat) : Wp (m2W op f i) E Q ↔ Wp f E fun d E1 => ∃ e, slotD E1[i]? = some e ∧ ∃ b, op d e = some (.bool b) ∧ Q (.bool b) E1 := by
  unfold m2W
  rw [wp_bnd]
  constructor <;> intro h <;> refine h.imp fun d E1 q => ?_
  · obtain ⟨a, E2, e2, q⟩ := q
    dsimp only at e2
    cases hd : slotD E1[i]? with
    | none =>
      rw [hd] at e2
      cases e2
    | some e =>
      rw [hd] at e2
      rcases ho : op d e with _ | (_ | b | _ | _ | _ | _ | _) <;> simp only [ho] at e2 <;> cases e2
      exact ⟨e, rfl, b, ho, q⟩
  · obtain ⟨e, hd, b, ho, q⟩ := q
    exact ⟨.bool b, E1, by simp only [hd, ho], q⟩
theorem wp_itF (t : Tg) (f : M PyData) : Wp (itF t f) E Ql ↔ Wp f E fun d E1 => ∃ ds, itO d = some ds ∧ ds.all (fitT t) = true ∧ Ql ds E1 := by
  unfold itF
  rw [wp_bnd]
  constructor <;> intro h <;> refine h.imp fun d E1 q => ?_
  · obtain ⟨ds, e, q⟩ := (wp_ofO _).mp q
    cases ho : itO d with
    | none =>
      rw [ho] at e
      cases e
    | some es =>
      rw [ho] at e
      obtain ⟨hf, e⟩ := lim_of e
      cases e
      exact ⟨_, rfl, hf, q⟩
  · obtain ⟨ds, ho, hf, q⟩ := q
    refine (wp_ofO _).mpr ⟨ds, ?_, q⟩
    rw [ho]
    show (if ds.all (fitT t) = true then some ds else none) = some ds
    rw [if_pos hf]
end
end Sa

set_option maxHeartbeats 4000000
/-! The data layer: what loops and comprehensions yield. -/
namespace Sa
open PySem PySem.Spec PyProof.Rows L2 He NdefX RZ
section
variable {E : En} {Ql : List PyData → En → Prop} {R : Out → Prop}
theorem lcD_run {own : List Nat} {t : Tg} {c : M Bool} {f : M PyData} (I : Nat → List PyData → En → Prop) : ∀ (ds : List PyData) (i : Nat) (ys : List PyData) (E : En), I i ys E →
    (∀ j ys E d, ds[j]? = some d → I (i + j) ys E → ∃ E2, setT t d (wipeE E own) = some E2 ∧ Wp c E2 fun b E3 => if b = true then Wp f E3 fun y E4 => I (i + j + 1) (ys ++ [y]) (wipeE E4 own) else I (i + j + 1) ys (wipeE E3 own)) →
    ∃ zs E', lcD own t c f ds E = some (zs, E') ∧ I (i + ds.length) (ys ++ zs) E'
  | [], i, ys, E, h, _ => ⟨[], E, rfl, by rw [List.append_nil]; exact h⟩
  | d :: ds, i, ys, E, h, step => by
    obtain ⟨E2, e2, b, E3, e3, q⟩ := step 0 ys E d rfl h
    have next : ∀ ys2 E4, I (i + 1) ys2 E4 → ∃ zs E', lcD own t c f ds E4 = some (zs, E') ∧ I (i + 1 + ds.length) (ys2 ++ zs) E' := fun ys2 E4 h4 => lcD_run I ds (i + 1) ys2 E4 h4 fun j ys E d hd hI => by
      have z := step (j + 1) ys E d hd (by rw [show i + (j + 1) = i + 1 + j by omega]; exact hI)
      rw [show i + (j + 1) + 1 = i + 1 + j + 1 by omega] at z
      exact z
    cases b with
    | false =>
      obtain ⟨zs, E', e4, h4⟩ := next ys _ q
      refine ⟨zs, E', ?_, by rw [show i + (d :: ds).length = i + 1 + ds.length by simp; omega]; exact h4⟩
      unfold lcD
      simp only [e2, e3]
      exact e4
    | true =>
      obtain ⟨y, E4, e4, q⟩ := q
      obtain ⟨zs, E', e5, h5⟩ := next _ _ q
      refine ⟨y :: zs, E', ?_, by rw [show i + (d :: ds).length = i + 1 + ds.length by simp; omega]; rw [List.append_assoc] at h5; exact h5⟩
      unfold lcD
      simp only [e2, e3, e4, e5]
theorem wp_lc {own : List Nat} {t : Tg} {fl : M (List PyData)} {c : M Bool} {f : M PyData} (h : Wp fl E fun ds E1 => ∃ I : Nat → List PyData → En → Prop, I 0 [] (wipeE E1 own) ∧
    (∀ i ys E d, ds[i]? = some d → I i ys E → ∃ E2, setT t d (wipeE E own) = some E2 ∧ Wp c E2 fun b E3 => if b = true then Wp f E3 fun y E4 => I (i + 1) (ys ++ [y]) (wipeE E4 own) else I (i + 1) ys (wipeE E3 own)) ∧
    ∀ ys E, I ds.length ys E → Ql ys E) : Wp (lcE own t fl c f) E Ql := by
  unfold lcE
  rw [wp_bnd]
  refine h.imp fun ds E1 ⟨I, h0, hs, he⟩ => ?_
  obtain ⟨zs, E', e, h1⟩ := lcD_run I ds 0 [] _ h0 fun j ys E d hd hI => by
    rw [Nat.zero_add] at hI ⊢
    exact hs j ys E d hd hI
  rw [Nat.zero_add, List.nil_append] at h1
  exact ⟨zs, E', by simp only [e], he _ _ h1⟩
/-- no draw, no test: the same answer of the same item -/
theorem wp_map {own : List Nat} {t : Tg} {fl : M (List PyData)} {f : M PyData} (h : Wp fl E fun ds E1 => ∃ g : PyData → PyData, (∀ d, d ∈ ds → ∃ E2, setT t d (wipeE E1 own) = some E2 ∧ Wp f E2 fun y E3 => y = g d ∧ wipeE E3 own = wipeE E1 own) ∧ Ql (ds.map g) (wipeE E1 own)) : Wp (lcE own t fl yesT f) E Ql := by
  refine wp_lc (h.imp fun ds E1 ⟨g, hs, hq⟩ => ⟨fun i ys E => E = wipeE E1 own ∧ ys = (ds.take i).map g, ⟨rfl, rfl⟩, fun i ys E d hd ⟨e1, e2⟩ => ?_, fun ys E ⟨e1, e2⟩ => ?_⟩)
  · subst e1
    obtain ⟨E2, e3, w⟩ := hs d (List.mem_of_getElem? hd)
    refine ⟨E2, by rw [wipeE_wipeE]; exact e3, (wp_ret true).mpr ?_⟩
    refine w.imp fun y E3 ⟨ey, e4⟩ => ⟨e4, ?_⟩
    rw [List.take_add_one, hd, List.map_append, ← e2, ey]
    rfl
  · subst e1
    subst e2
    rw [List.take_length]
    exact hq
/-- for t in ds -/
theorem forS_run {t : Tg} {g : SM} (I : Nat → En → Prop) : ∀ (ds : List PyData) (i : Nat) (E : En), I i E →
    (∀ j E d, ds[j]? = some d → I (i + j) E → ∃ E2, setT t d E = some E2 ∧ Ws g E2 fun o => match o with | .nx E3 => I (i + j + 1) E3 | .ct E3 => I (i + j + 1) E3 | .bk E3 => R (.nx E3) | o => R o) →
    (∀ E, I (i + ds.length) E → R (.nx E)) → Ws (forS t g ds) E R
  | [], i, E, h, _, k => ⟨.nx E, rfl, k E h⟩
  | d :: ds, i, E, h, step, k => by
    obtain ⟨E2, e2, o, e3, q⟩ := step 0 E d rfl h
    have next : ∀ E4, I (i + 1) E4 → Ws (forS t g ds) E4 R := fun E4 h4 => forS_run I ds (i + 1) E4 h4 (fun j E d hd hI => by
      have z := step (j + 1) E d hd (by rw [show i + (j + 1) = i + 1 + j by omega]; exact hI)
      rw [show i + (j + 1) + 1 = i + 1 + j + 1 by omega] at z
      exact z) fun E hE => k E (by rw [show i + (d :: ds).length = i + 1 + ds.length by simp; omega]; exact hE)
    cases o with
    | nx E3 =>
      obtain ⟨o, e4, q⟩ := next E3 q
      exact ⟨o, by unfold forS; simp only [e2, e3]; exact e4, q⟩
    | ct E3 =>
      obtain ⟨o, e4, q⟩ := next E3 q
      exact ⟨o, by unfold forS; simp only [e2, e3]; exact e4, q⟩
    | _ => exact ⟨_, by unfold forS; simp only [e2, e3], q⟩
theorem ws_for {t : Tg} {f : M (List PyData)} {g : SM} (h : Wp f E fun ds E1 => ∃ I : Nat → En → Prop, I 0 E1 ∧
    (∀ i E d, ds[i]? = some d → I i E → ∃ E2, setT t d E = some E2 ∧ Ws g E2 fun o => match o with | .nx E3 => I (i + 1) E3 | .ct E3 => I (i + 1) E3 | .bk E3 => R (.nx E3) | o => R o) ∧ ∀ E, I ds.length E → R (.nx E)) : Ws (loopS t f g) E R := by
  unfold loopS
  refine ws_then _ _ (h.imp fun ds E1 ⟨I, h0, hs, he⟩ => forS_run I ds 0 E1 h0 (fun j E d hd hI => ?_) fun E hE => he E (by rw [Nat.zero_add] at hE; exact hE))
  rw [Nat.zero_add] at hI ⊢
  exact hs j E d hd hI
theorem whl_run {c : M Bool} {g : SM} (I : Nat → En → Prop) (step : ∀ n E, I n E → Wp c E fun b E1 => if b = true then Ws g E1 fun o => match o with | .nx E2 => ∃ m, m < n ∧ I m E2 | .ct E2 => ∃ m, m < n ∧ I m E2 | .bk E2 => R (.nx E2) | o => R o else R (.nx E1)) :
    ∀ (n : Nat) (E : En), I n E → ∃ k o, whlN c g k E = some o ∧ R o := by
  intro n
  induction n using Nat.strongRecOn with
  | ind n ih =>
    intro E h
    obtain ⟨b, E1, e1, q⟩ := step n E h
    cases b with
    | false => exact ⟨1, .nx E1, by unfold whlN; simp only [e1], q⟩
    | true =>
      obtain ⟨o, e2, q⟩ := q
      cases o with
      | nx E2 =>
        obtain ⟨m, hm, hI⟩ := q
        obtain ⟨k, o, e3, r⟩ := ih m hm E2 hI
        exact ⟨k + 1, o, by unfold whlN; simp only [e1, e2]; exact e3, r⟩
      | ct E2 =>
        obtain ⟨m, hm, hI⟩ := q
        obtain ⟨k, o, e3, r⟩ := ih m hm E2 hI
        exact ⟨k + 1, o, by unfold whlN; simp only [e1, e2]; exact e3, r⟩
      | _ => exact ⟨1, _, by unfold whlN; simp only [e1, e2], q⟩
theorem ws_whl {c : M Bool} {g : SM} (I : Nat → En → Prop) (n : Nat) (h : I n E) (step : ∀ n E, I n E → Wp c E fun b E1 => if b = true then Ws g E1 fun o => match o with | .nx E2 => ∃ m, m < n ∧ I m E2 | .ct E2 => ∃ m, m < n ∧ I m E2 | .bk E2 => R (.nx E2) | o => R o else R (.nx E1)) : Ws (whlS c g) E R := by
  obtain ⟨k, o, e, r⟩ := whl_run I step n E h
  exact ⟨o, whlS_of e, r⟩
/-! ### readings that change nothing -/
def Pv {α : Type} (f : M α) (E : En) (a : α) : Prop := f E = some (.ok a E)
theorem Pv.wp {α : Type} {f : M α} {a : α} {Q : α → En → Prop} (h : Pv f E a) (q : Q a E) : Wp f E Q := ⟨a, E, h, q⟩
theorem pv_of {α : Type} {f : M α} {a : α} (h : Wp f E fun b E1 => b = a ∧ E1 = E) : Pv f E a := by
  obtain ⟨b, E1, e, rfl, rfl⟩ := h
  exact e
theorem ws_ifv {c : M Bool} {g h : SM} {b : Bool} (t : Pv c E b) (k1 : b = true → Ws g E R) (k2 : b = false → Ws h E R) : Ws (ifS c g h) E R := ws_if (t.wp (by
  cases b with
  | true => exact k1 rfl
  | false => exact k2 rfl))
theorem ws_retv {f : M PyData} {d : PyData} (t : Pv f E d) (k : R (.rt d E)) : Ws (retS f) E R := ws_ret (t.wp k)
variable {α β : Type}
theorem pv_ret (a : α) : Pv (ret a) E a := rfl
theorem pv_bnd {m : M α} {k : α → M β} {a : α} {b : β} (h1 : Pv m E a) (h2 : Pv (k a) E b) : Pv (bnd m k) E b := pv_of ((wp_bnd _ _).mpr (h1.wp (h2.wp ⟨rfl, rfl⟩)))
theorem pv_get {i : Nat} {d : PyData} (h : E[i]? = some (.dat d)) : Pv (getV i) E d := by
  unfold Pv getV
  rw [h]
theorem pv_or {f g : M Bool} {a b : Bool} (h1 : Pv f E a) (h2 : a = false → Pv g E b) : Pv (orT f g) E (a || b) := by
  cases a with
  | true => exact pv_bnd h1 rfl
  | false => exact pv_bnd h1 (h2 rfl)
theorem pv_and {f g : M Bool} {a b : Bool} (h1 : Pv f E a) (h2 : a = true → Pv g E b) : Pv (andT f g) E (a && b) := by
  cases a with
  | true => exact pv_bnd h1 (h2 rfl)
  | false => exact pv_bnd h1 rfl
theorem pv_not {f : M Bool} {a : Bool} (h1 : Pv f E a) : Pv (notT f) E (!a) := pv_bnd h1 rfl
theorem pv_asB {f : M PyData} {a : Bool} (h1 : Pv f E (.bool a)) : Pv (asB f) E a := pv_bnd h1 rfl
theorem pv_andV {f g : M PyData} {a b : Bool} (h1 : Pv f E (.bool a)) (h2 : a = true → Pv g E (.bool b)) : Pv (andV f g) E (.bool (a && b)) := by
  cases a with
  | true => exact pv_bnd (pv_asB h1) (h2 rfl)
  | false => exact pv_bnd (pv_asB h1) rfl
theorem pv_notV {f : M PyData} {a : Bool} (h1 : Pv f E (.bool a)) : Pv (notV f) E (.bool !a) := pv_bnd (pv_asB h1) rfl
theorem pv_isi {T : String} {f : M PyData} {d : PyData} (h1 : Pv f E d) : Pv (isiE T f) E (.bool (isiB T d)) := pv_bnd h1 rfl
theorem pv_m2 {op : PyData → PyData → Option PyData} {f g : M PyData} {d e z : PyData} (h1 : Pv f E d) (h2 : Pv g E e) (h : op d e = some z) : Pv (m2 op f g) E z := pv_bnd h1 (pv_bnd h2 (by unfold Pv; rw [h]; rfl))
theorem pv_m1 {op : PyData → Option PyData} {f : M PyData} {d z : PyData} (h1 : Pv f E d) (h : op d = some z) : Pv (m1 op f) E z := pv_bnd h1 (by unfold Pv; rw [h]; rfl)
theorem pv_len {i : Nat} {d z : PyData} (h : slotD E[i]? = some d) (hl : lenD d = some z) : Pv (lenVE i) E z := pv_of ((wp_lenV i).mpr ⟨d, h, z, hl, rfl, rfl⟩)
theorem pv_ixV {i : Nat} {g : M PyData} {d k z : PyData} (h : slotD E[i]? = some d) (h2 : Pv g E k) (hx : ixD d k = some z) : Pv (ixV i g) E z := pv_of ((wp_ixV i g).mpr ⟨by rw [h]; rfl, h2.wp ⟨d, h, z, hx, rfl, rfl⟩⟩)
theorem pv_m2V {op : PyData → PyData → Option PyData} {i : Nat} {g : M PyData} {d k z : PyData} (h : slotD E[i]? = some d) (h2 : Pv g E k) (hx : op d k = some z) : Pv (m2V op i g) E z := pv_of ((wp_m2V op i g).mpr ⟨by rw [h]; rfl, h2.wp ⟨d, h, z, hx, rfl, rfl⟩⟩)
theorem pv_m2W {op : PyData → PyData → Option PyData} {i : Nat} {f : M PyData} {d e : PyData} {b : Bool} (h2 : Pv f E d) (h : slotD E[i]? = some e) (hx : op d e = some (.bool b)) : Pv (m2W op f i) E (.bool b) := pv_of ((wp_m2W op f i).mpr (h2.wp ⟨e, h, b, hx, rfl, rfl⟩))
theorem pv_ch {op op' : PyData → PyData → Option PyData} {f g k : M PyData} {d e z : PyData} {a b : Bool} (h1 : Pv f E d) (h2 : Pv g E e) (h : op d e = some (.bool a)) (h3 : a = true → Pv k E z ∧ op' e z = some (.bool b)) : Pv (chD op op' f g k) E (.bool (a && b)) := by
  refine pv_of ((wp_ch op op' f g k).mpr (h1.wp (h2.wp ?_)))
  rw [h]
  cases a with
  | true => exact (h3 rfl).1.wp ⟨_, (h3 rfl).2, rfl, rfl⟩
  | false => exact ⟨rfl, rfl⟩
theorem pv_nil : Pv nilA E [] := rfl
theorem pv_cons {f : M PyData} {g : M (List PyData)} {d : PyData} {ds : List PyData} (h1 : Pv f E d) (h2 : Pv g E ds) : Pv (consA f g) E (d :: ds) := pv_bnd h1 (pv_bnd h2 rfl)
theorem pv_call {m : List PyData → Option FR} {f : M (List PyData)} {ds : List PyData} {d : PyData} (h1 : Pv f E ds) (h : m ds = some (.ok d)) : Pv (callE m f) E d := pv_bnd h1 (by
  unfold Pv
  try dsimp only
  rw [h]
  rfl)
theorem pv_calE {op : List PyData → Option PyData} {f : M (List PyData)} {ds : List PyData} {z : PyData} (h1 : Pv f E ds) (h : op ds = some z) : Pv (calE op f) E z := pv_bnd h1 (by unfold Pv; rw [h]; rfl)
theorem pv_tup {f : M (List PyData)} {ds : List PyData} (h1 : Pv f E ds) (h : ds.length ≤ sizeLine) : Pv (tupE f) E (.tuple ds) := pv_bnd h1 (by
  unfold Pv
  try dsimp only
  rw [if_pos h]
  rfl)
theorem pv_lst {f : M (List PyData)} {ds : List PyData} (h1 : Pv f E ds) (h : ds.length ≤ sizeLine) : Pv (lstE f) E ds := pv_bnd h1 (by
  unfold Pv
  try dsimp only
  rw [if_pos h]
  rfl)
theorem pv_frz {f : M (List PyData)} {ds : List PyData} (h1 : Pv f E ds) : Pv (frzE f) E (.list ds) := pv_bnd h1 rfl
theorem pv_calQ {op : Bool × List PyData → Option PyData} {f : M (Bool × List PyData)} {z : Bool × List PyData} {d : PyData} (h1 : Pv f E z) (h : op z = some d) : Pv (calQ op f) E d := pv_bnd h1 (by unfold Pv; rw [h]; rfl)
theorem pv_sqF {f : M (List PyData)} {ds : List PyData} (h1 : Pv f E ds) : Pv (sqF f) E (false, ds) := pv_bnd h1 rfl
theorem pv_itF {t : Tg} {f : M PyData} {d : PyData} {ds : List PyData} (h1 : Pv f E d) (h : itO d = some ds) (hf : ds.all (fitT t) = true) : Pv (itF t f) E ds := pv_of ((wp_itF t f).mpr (h1.wp ⟨ds, h, hf, rfl, rfl⟩))
/-- [f for t in fl]: nothing drawn, the comprehension's names unset before -/
theorem pv_map {own : List Nat} {t : Tg} {fl : M (List PyData)} {f : M PyData} {ds : List PyData} (g : PyData → PyData) (hw : wipeE E own = E) (h1 : Pv fl E ds) (h : ∀ d, d ∈ ds → ∃ E2, setT t d E = some E2 ∧ wipeE E2 own = E ∧ Pv f E2 (g d)) : Pv (lcE own t fl yesT f) E (ds.map g) := by
  refine pv_of (wp_map (h1.wp ⟨g, fun d hd => ?_, rfl, hw⟩))
  obtain ⟨E2, e1, e2, e3⟩ := h d hd
  exact ⟨E2, by rw [hw]; exact e1, e3.wp ⟨rfl, by rw [hw]; exact e2⟩⟩
/-- [f for t in fl if c] -/
theorem pv_filt {own : List Nat} {t : Tg} {fl : M (List PyData)} {c : M Bool} {f : M PyData} {ds : List PyData} (p : PyData → Bool) (g : PyData → PyData) (hw : wipeE E own = E) (h1 : Pv fl E ds)
    (h : ∀ d, d ∈ ds → ∃ E2, setT t d E = some E2 ∧ wipeE E2 own = E ∧ Pv c E2 (p d) ∧ (p d = true → Pv f E2 (g d))) : Pv (lcE own t fl c f) E ((ds.filter p).map g) := by
  refine pv_of (wp_lc (h1.wp ⟨fun i ys E1 => E1 = E ∧ ys = ((ds.take i).filter p).map g, ⟨hw, by simp⟩, fun i ys E1 d hd ⟨e1, e2⟩ => ?_, fun ys E1 ⟨e1, e2⟩ => ⟨by rw [e2, List.take_length], e1⟩⟩))
  subst e1
  obtain ⟨E2, e3, e4, e5, e6⟩ := h d (List.mem_of_getElem? hd)
  refine ⟨E2, by rw [hw]; exact e3, e5.wp ?_⟩
  have tk : (ds.take (i + 1)).filter p = (ds.take i).filter p ++ (if p d = true then [d] else []) := by
    rw [List.take_add_one, hd, List.filter_append]
    simp [List.filter_cons]
  cases hp : p d with
  | true =>
    refine (e6 hp).wp ⟨e4, ?_⟩
    rw [tk, hp, e2]
    simp
  | false =>
    refine ⟨e4, ?_⟩
    rw [tk, hp, e2]
    simp
theorem boolsO_map {γ : Type} (p : γ → Bool) : ∀ (l : List γ), boolsO (l.map fun c => .bool (p c)) = some (l.map p)
  | [] => rfl
  | c :: l => by
    show (boolsO (l.map fun c => .bool (p c))).map (p c :: ·) = _
    rw [boolsO_map p l]
    rfl
theorem allQ_map {γ : Type} (p : γ → Bool) (l : List γ) : allQ (false, l.map fun c => .bool (p c)) = some (.bool (l.all p)) := by
  unfold allQ
  simp only [boolsO_map, Bool.false_eq_true, if_false, Option.map_some]
  congr 2
  induction l with
  | nil => rfl
  | cons c l ih => simp [List.all_cons, ih]
end
end Sa

set_option maxHeartbeats 4000000
/-! The data layer: what operators answer on plain data; data that fits. -/
namespace Sa
open PySem PySem.Spec PyProof.Rows L2 He NdefX RZ
theorem eqD_int (a b : Int) : eqD (.int a) (.int b) = some (.bool (a == b)) := by
  simp [eqD, Sa.eqO, SeqAt.shaped, PyData.canLay0, PyData.depth, PyData.eqv]
theorem neD_int (a b : Int) : neD (.int a) (.int b) = some (.bool (!(a == b))) := by
  simp [neD, SeqAt.shaped, PyData.canLay0, PyData.depth, PyData.eqv]
theorem neD_str (a b : Str) (h : PyData.strOk a = true) (h2 : PyData.strOk b = true) : neD (.str a) (.str b) = some (.bool (!(a == b))) := by
  simp [neD, SeqAt.shaped, PyData.canLay0, PyData.depth, PyData.eqv, h, h2]
theorem eqD_str (a b : Str) (h : PyData.strOk a = true) (h2 : PyData.strOk b = true) : eqD (.str a) (.str b) = some (.bool (a == b)) := by
  simp [eqD, Sa.eqO, SeqAt.shaped, PyData.canLay0, PyData.depth, PyData.eqv, h, h2]
mutual
/-- texts of signs, no long text or sequence; only an empty dict -/
def fitD : PyData → Bool
  | .str x => PyData.strOk x && decide (x.length ≤ 100000)
  | .list xs => fitAll xs && decide (xs.length ≤ 100000)
  | .tuple xs => fitAll xs && decide (xs.length ≤ 100000)
  | .dict kvs => kvs.isEmpty
  | .none => true
  | .bool _ => true
  | .int _ => true
def fitAll : List PyData → Bool
  | [] => true
  | x :: xs => fitD x && fitAll xs
end
theorem fitAll_iff : ∀ {xs : List PyData}, fitAll xs = true ↔ ∀ x ∈ xs, fitD x = true
  | [] => by simp [fitAll]
  | x :: xs => by simp [fitAll, fitAll_iff (xs := xs)]
theorem fit_str {x : Str} (h : fitD (.str x) = true) : PyData.strOk x = true ∧ x.length ≤ 100000 := by
  simpa [fitD] using h
theorem fit_tup {xs : List PyData} (h : fitD (.tuple xs) = true) : (∀ x ∈ xs, fitD x = true) ∧ xs.length ≤ 100000 := by
  have : fitAll xs = true ∧ xs.length ≤ 100000 := by simpa [fitD] using h
  exact ⟨fitAll_iff.mp this.1, this.2⟩
theorem fit_lst {xs : List PyData} (h : fitD (.list xs) = true) : (∀ x ∈ xs, fitD x = true) ∧ xs.length ≤ 100000 := by
  have : fitAll xs = true ∧ xs.length ≤ 100000 := by simpa [fitD] using h
  exact ⟨fitAll_iff.mp this.1, this.2⟩
theorem fit_tup_of {xs : List PyData} (h : ∀ x ∈ xs, fitD x = true) (hl : xs.length ≤ 100000) : fitD (.tuple xs) = true := by
  simp [fitD, fitAll_iff.mpr h, hl]
theorem size_le {n : Nat} (h : n ≤ 100000) : n ≤ sizeLine := Nat.le_trans h (by show 100000 ≤ sizeLine; decide)
/-- a sequence of texts -/
def strsD (xs : List PyData) : Prop := ∀ x ∈ xs, ∃ s, x = .str s ∧ PyData.strOk s = true
theorem strs_lay : ∀ {xs : List PyData}, strsD xs → PyData.canLayAll0 xs = true ∧ PyData.depthAll xs = 0
  | [], _ => by simp [PyData.canLayAll0, PyData.depthAll]
  | x :: xs, h => by
    obtain ⟨s, rfl, hs⟩ := h x List.mem_cons_self
    obtain ⟨h1, h2⟩ := strs_lay (xs := xs) fun y hy => h y (List.mem_cons_of_mem _ hy)
    simp [PyData.canLayAll0, PyData.depthAll, PyData.canLay0, PyData.depth, hs, h1, h2]
theorem strs_shaped {xs : List PyData} (h : strsD xs) : SeqAt.shaped (.tuple xs) = true ∧ SeqAt.shaped (.list xs) = true := by
  obtain ⟨h1, h2⟩ := strs_lay h
  simp [SeqAt.shaped, PyData.canLay0, PyData.depth, h1, h2]
theorem str_shaped {x : Str} (h : PyData.strOk x = true) : SeqAt.shaped (.str x) = true := by simp [SeqAt.shaped, PyData.canLay0, PyData.depth, h]
def memS (x : Str) (ds : List PyData) : Bool := ds.any fun z => PyData.eqv z (.str x)
theorem inE_tup {x : Str} {ds : List PyData} (hx : PyData.strOk x = true) (h : SeqAt.shaped (.tuple ds) = true) : inE (.str x) (.tuple ds) = some (.bool (memS x ds)) := by
  have e : inD (.str x) (.tuple ds) = if SeqAt.shaped (.str x) = true ∧ SeqAt.shaped (.tuple ds) = true then some (ds.any fun z => PyData.eqv z (.str x)) else none := rfl
  unfold inE
  rw [e, if_pos ⟨str_shaped hx, h⟩]
  rfl
theorem inE_lst {x : Str} {ds : List PyData} (hx : PyData.strOk x = true) (h : SeqAt.shaped (.list ds) = true) : inE (.str x) (.list ds) = some (.bool (memS x ds)) := by
  have e : inD (.str x) (.list ds) = if SeqAt.shaped (.str x) = true ∧ SeqAt.shaped (.list ds) = true then some (ds.any fun z => PyData.eqv z (.str x)) else none := rfl
  unfold inE
  rw [e, if_pos ⟨str_shaped hx, h⟩]
  rfl
theorem len_str {x : Str} (h : x.length ≤ 100000) : lenD (.str x) = some (.int (x.length : Nat)) := if_pos (size_le h)
theorem itO_str {x : Str} (h : x.length ≤ 100000) : itO (.str x) = some (x.cps.toList.map fun c => .str ⟨#[c]⟩) := if_pos (by rw [Array.length_toList]; exact size_le h)
theorem all_chars (p : Nat → Bool) (q : PyData → Bool) (h : ∀ c, q (.str ⟨#[c]⟩) = p c) (l : List Nat) : (l.map fun c => PyData.str ⟨#[c]⟩).all q = l.all p := by
  induction l with
  | nil => rfl
  | cons c l ih => simp [List.all_cons, ih, h]
/-- a tuple's or a list's part -/
theorem ix_tup {ds : List PyData} {i : Nat} {d : PyData} (h : ds[i]? = some d) : ixD (.tuple ds) (.int (i : Nat)) = some d := by
  show atI ds (i : Nat) = some d
  have hi := (List.getElem?_eq_some_iff.mp h).1
  unfold atI
  have e : ixN ds.length ((i : Nat) : Int) = some i := by
    unfold ixN
    simp
    omega
  rw [e]
  exact h
theorem pv_lookT {E : En} {i : Nat} {ds : List PyData} (h : E[i]? = some (.dat (.tuple ds))) : Pv (lookV i) E (true, ds) := by
  unfold Pv lookV
  rw [h]
  rfl
theorem pv_lookL {E : En} {i : Nat} {ds : List PyData} (h : E[i]? = some (.own ds)) : Pv (lookV i) E (false, ds) := by
  unfold Pv lookV
  rw [h]
def keyF : PyData → Key
  | .int i => .inl i
  | .str x => .inr x
  | _ => .inl 0
theorem keys_map : ∀ {ds : List PyData}, (∀ d ∈ ds, ∃ x, d = .str x) → keysO ds = some (ds.map keyF)
  | [], _ => rfl
  | d :: ds, h => by
    obtain ⟨x, rfl⟩ := h d List.mem_cons_self
    show (match keyO (.str x), keysO ds with
      | some k, some ks => some (k :: ks)
      | _, _ => none) = _
    rw [keys_map fun e he => h e (List.mem_cons_of_mem _ he)]
    rfl
theorem cnt_strs {ds : List PyData} (h : ∀ d ∈ ds, ∃ x, d = .str x) (hl : ds.length < 4000) : cntO ds = some (.int (cntK (ds.map keyF) : Nat)) := by
  unfold cntO
  rw [keys_map h]
  simp only [List.length_map, hl, if_true]
theorem pv_lenSet {E : En} {f : M (Bool × List PyData)} {z : Bool × List PyData} {d : PyData} (h1 : Pv f E z) (h : cntO z.2 = some d) : Pv (lenSetE f) E d := pv_bnd h1 (by unfold Pv; rw [h]; rfl)
theorem pv_lenSc {E : En} {own : List Nat} {t : Tg} {fl : M (List PyData)} {c : M Bool} {f : M PyData} {ds : List PyData} {d : PyData} (h1 : Pv (lcE own t fl c f) E ds) (h : cntO ds = some d) : Pv (lenScE own t fl c f) E d := pv_bnd h1 (by unfold Pv; rw [h]; rfl)
theorem allQ_id (p : PyData → Bool) (l : List PyData) : allQ (false, l.map fun c => .bool (p c)) = some (.bool (l.all p)) := allQ_map p l
theorem Pv.to {α : Type} {f : M α} {E : En} {a b : α} (h : Pv f E a) (e : a = b) : Pv f E b := e ▸ h
theorem pv_or_t {E : En} {f g : M Bool} {a : Bool} (h1 : Pv f E a) (e : a = true) : Pv (orT f g) E true := by
  subst e
  exact pv_or (b := true) h1 fun h => nomatch h
theorem pv_or_f {E : En} {f g : M Bool} {a b : Bool} (h1 : Pv f E a) (e : a = false) (h2 : Pv g E b) : Pv (orT f g) E b := by
  subst e
  exact pv_or h1 fun _ => h2
theorem pv_andV_f {E : En} {f g : M PyData} {a : Bool} (h1 : Pv f E (.bool a)) (e : a = false) : Pv (andV f g) E (.bool false) := by
  subst e
  exact pv_andV (b := true) h1 fun h => nomatch h
/-- [f for t in fl], told item by item -/
theorem pv_mapI {E : En} {own : List Nat} {t : Tg} {fl : M (List PyData)} {f : M PyData} {ds ys : List PyData} (hw : wipeE E own = E) (h1 : Pv fl E ds) (hl : ys.length = ds.length)
    (h : ∀ (i : Nat) (d y : PyData), ds[i]? = some d → ys[i]? = some y → ∃ E2, setT t d E = some E2 ∧ wipeE E2 own = E ∧ Pv f E2 y) : Pv (lcE own t fl yesT f) E ys := by
  refine pv_of (wp_lc (h1.wp ⟨fun i zs E1 => E1 = E ∧ zs = ys.take i, ⟨hw, by simp⟩, fun i zs E1 d hd ⟨e1, e2⟩ => ?_, fun zs E1 ⟨e1, e2⟩ => ⟨by rw [e2, ← hl, List.take_length], e1⟩⟩))
  subst e1
  have hi := (List.getElem?_eq_some_iff.mp hd).1
  have hy : ys[i]? = some ys[i] := List.getElem?_eq_getElem (by omega)
  obtain ⟨E2, e3, e4, e5⟩ := h i d _ hd hy
  refine ⟨E2, by rw [hw]; exact e3, (wp_ret true).mpr (e5.wp ⟨e4, ?_⟩)⟩
  rw [List.take_add_one, hy, e2]
  rfl
theorem pv_zipT {E : En} {f : M (List PyData)} {xs ys : List PyData} (h : Pv f E [.tuple xs, .tuple ys]) (hl : xs.length ≤ sizeLine) : Pv (zipE f) E (zipL xs ys) := by
  unfold zipE
  refine pv_bnd h ?_
  unfold Pv
  dsimp only
  rw [if_pos (by rw [zipL_len]; exact Nat.le_trans (Nat.min_le_left _ _) hl)]
  rfl
theorem zipL_eq : ∀ (ds es : List PyData), zipL ds es = (ds.zip es).map fun z => .tuple [z.1, z.2]
  | [], _ => rfl
  | _ :: _, [] => rfl
  | d :: ds, e :: es => by
    show PyData.tuple [d, e] :: zipL ds es = _
    rw [zipL_eq ds es]
    rfl
theorem eqD_nil (xs : List PyData) : eqD (.tuple xs) (.tuple []) = some (.bool xs.isEmpty) := by
  unfold eqD Sa.eqO
  split
  · cases xs with
    | nil => rfl
    | cons x xs => rfl
  · rfl
theorem all_no {rows : List PyData} {p : PyData → Bool} {i : Nat} {r : PyData} (h : rows[i]? = some r) (hp : p r = false) : rows.all p = false := by
  cases q : rows.all p with
  | false => rfl
  | true =>
    have := List.all_eq_true.mp q r (List.mem_of_getElem? h)
    rw [hp] at this
    cases this
theorem all_upto {rows : List PyData} {p : PyData → Bool} (h : ∀ (i : Nat) (r : PyData), rows[i]? = some r → p r = true) : rows.all p = true := List.all_eq_true.mpr fun r hr => by
  obtain ⟨i, hi⟩ := List.getElem?_of_mem hr
  exact h i r hi
theorem two_le : 2 ≤ sizeLine := by decide
theorem wp_mut {E : En} {Q : PyData → En → Prop} {i : Nat} {mo : List PyData → List PyData → Option (PyData × List PyData)} {f : M (List PyData)} {ds0 : List PyData} (h0 : E[i]? = some (.own ds0))
    (h : Wp f E fun es E1 => ∃ ds, E1[i]? = some (.own ds) ∧ ∃ d ds', mo ds es = some (d, ds') ∧ Q d (E1.set i (.own ds'))) : Wp (mutV i mo f) E Q := by
  obtain ⟨es, E1, e1, ds, h1, d, ds', e2, q⟩ := h
  refine ⟨d, _, ?_, q⟩
  unfold mutV
  simp only [h0]
  unfold bnd
  simp only [e1, h1, e2]
theorem app_ok {ds : List PyData} {d : PyData} (h : ds.length < sizeLine) : appM ds [d] = some (.none, ds ++ [d]) := if_pos h
theorem ws_par {E : En} {R : Out → Prop} {is : List Nat} {rs : List Rv} (h : Wp (runR rs) E fun ss E1 => is.length = ss.length ∧ R (.nx (setSk is ss E1))) : Ws (parS is rs) E R := by
  unfold parS
  exact ws_then _ _ (h.imp fun ss E1 ⟨hl, q⟩ => ⟨_, if_pos hl, q⟩)
/-- an error comes -/
def Xv {α : Type} (f : M α) (E : En) (c : Str) (fs : Option (List (Str × PyData))) : Prop := f E = some (.ex c fs E)
section
variable {α β : Type} {E : En} {c : Str} {fs : Option (List (Str × PyData))} {R : Out → Prop}
theorem xv_bnd {m : M α} {k : α → M β} (h : Xv m E c fs) : Xv (bnd m k) E c fs := by
  unfold Xv bnd
  rw [h]
theorem xv_callX {m : List PyData → Option FR} {f : M (List PyData)} {ds : List PyData} (h1 : Pv f E ds) (h : m ds = some (.ex c fs)) : Xv (callX m f) E c fs := by
  unfold Xv callX bnd
  rw [h1]
  show (match m ds with
    | some (.ok d) => ret d
    | some (.ex c fs) => fun E => some (Rz.ex c fs E)
    | none => die) E = _
  rw [h]
theorem pv_callX {m : List PyData → Option FR} {f : M (List PyData)} {ds : List PyData} {d : PyData} (h1 : Pv f E ds) (h : m ds = some (.ok d)) : Pv (callX m f) E d := pv_bnd h1 (by
  unfold Pv
  try dsimp only
  rw [h]
  rfl)
theorem ws_exprX {f : M PyData} (h : Xv f E c fs) (k : R (.ex c fs E)) : Ws (exprS f) E R := ⟨_, by unfold exprS thenS; rw [h], k⟩
theorem ws_retX {f : M PyData} (h : Xv f E c fs) (k : R (.ex c fs E)) : Ws (retS f) E R := ⟨_, by unfold retS thenS; rw [h], k⟩
theorem ws_raise (k : R (.ex c none E)) : Ws (raiseS c) E R := ⟨_, rfl, k⟩
theorem fnD_ex {g : SM} {n np : Nat} {ds : List PyData} (hl : ds.length = np) (h : Ws g (enOf n (ds.map .dat)) fun o => match o with | .ex c1 fs1 _ => c1 = c ∧ fs1 = fs | _ => False) : fnD g n np ds = some (.ex c fs) := by
  unfold fnD
  rw [if_pos hl]
  obtain ⟨o, e, q⟩ := h
  rw [e]
  cases o with
  | ex c1 fs1 E1 =>
    obtain ⟨rfl, rfl⟩ := q
    rfl
  | _ => exact q.elim
theorem ws_exprv {f : M PyData} {d : PyData} (h : Pv f E d) (k : R (.nx E)) : Ws (exprS f) E R := ws_expr (h.wp k)
end
end Sa

set_option maxHeartbeats 4000000
namespace K19
open PySem PySem.Spec PyProof.Rows L2 He Sa NdefX RZ
def inKept (x : Str) : Bool := memS x (keptL.map PyData.str)
def smallC (c : Nat) : Bool := decide (c ∈ smallS.cps.toList)
def nameT (x : Str) : Bool := !(decide ((1 : Int) ≤ (x.length : Nat)) && decide (((x.length : Nat) : Int) ≤ 8)) || inKept x
def nameB : PyData → Bool
  | .str x => !nameT x && x.cps.toList.all smallC
  | _ => false
def smallP : PyData → Bool
  | .str x => smallC (x.cps.toList.headD 0)
  | _ => false
theorem small_in (c : Nat) : inE (.str ⟨#[c]⟩) (.str smallS) = some (.bool (smallC c)) := rfl
theorem kept_strs : strsD (keptL.map .str) := fun x hx => by
  obtain ⟨s, hs, rfl⟩ := List.mem_map.mp hx
  refine ⟨s, rfl, ?_⟩
  have : keptL.all PyData.strOk = true := by decide +kernel
  exact List.all_eq_true.mp this s hs
theorem kept_in {x : Str} (h : PyData.strOk x = true) : inE (.str x) (.tuple (keptL.map .str)) = some (.bool (inKept x)) := inE_tup h (strs_shaped kept_strs).1
theorem p_is_name (d : PyData) (hd : fitD d = true) : m_is_name [d] = some (.ok (.bool (nameB d))) := by
  cases d with
  | str x =>
    obtain ⟨ho, hx⟩ := fit_str hd
    refine fnD_ok rfl ?_
    show Ws g_is_name [.dat (.str x), .un] _
    unfold g_is_name
    refine ws_seq (ws_ifv (pv_or (pv_not (pv_asB (pv_isi (pv_get rfl)))) fun _ => pv_or (pv_not (pv_asB (pv_ch (pv_ret _) (pv_len rfl (len_str hx)) rfl fun _ => ⟨pv_ret _, rfl⟩))) fun _ => pv_asB (pv_m2 (pv_get rfl) (pv_ret _) (kept_in ho))) (fun hb => ?_) fun hb => ?_)
    · refine ws_retv (pv_ret _) ?_
      have hb : nameT x = true := hb
      show PyData.bool false = PyData.bool (!nameT x && _)
      rw [hb]
      rfl
    · refine ws_nx ?_
      refine ws_retv (pv_calQ (pv_sqF (pv_map (fun d => .bool (smallP d)) rfl (pv_itF (pv_get rfl) (itO_str hx) ?_) fun d hd => ⟨_, rfl, rfl, ?_⟩)) (allQ_map smallP _)) ?_
      · simp [fitT]
      · obtain ⟨c, _, rfl⟩ := List.mem_map.mp hd
        exact pv_m2 (pv_get rfl) (pv_ret _) (small_in c)
      · rw [all_chars smallC smallP fun c => rfl]
        have hb : nameT x = false := hb
        show PyData.bool _ = PyData.bool (!nameT x && _)
        rw [hb]
        rfl
  | _ => rfl
def numB : PyData → Bool
  | .int _ => true
  | _ => false
theorem p_is_number (d : PyData) : m_is_number [d] = some (.ok (.bool (numB d))) := by cases d <;> rfl
/-! the head: a tuple of n things, the first of them the word k -/
def headB (d : PyData) (k : Str) (n : Nat) : Bool := match d with
  | .tuple (.str z :: r) => r.length + 1 == n && z == k
  | _ => false
def headE (n : Nat) (k : Str) : M Bool := orT (notT (asB (isiE "tuple" (getV 0)))) (orT (asB (m2 neD (lenVE 0) (ret (.int (n : Nat))))) (orT (notT (asB (isiE "str" (ixV 0 (ret (.int 0)))))) (asB (m2 neD (ixV 0 (ret (.int 0))) (ret (.str k))))))
theorem head_or {E : En} {d : PyData} {n : Nat} {k : Str} (h0 : E[0]? = some (.dat d)) (hf : fitD d = true) (hk : PyData.strOk k = true) (hn : 1 ≤ n) : Pv (headE n k) E (!headB d k n) := by
  have hs : slotD E[0]? = some d := by rw [h0]; rfl
  unfold headE
  have start := pv_not (pv_asB (pv_isi (T := "tuple") (pv_get h0)))
  have off : ∀ {g : M Bool}, isiB "tuple" d = false → headB d k n = false → Pv (orT (notT (asB (isiE "tuple" (getV 0)))) g) E (!headB d k n) := fun {g} h1 h2 => by
    rw [h2]
    rw [h1] at start
    exact pv_or (b := true) start fun h => nomatch h
  cases d with
  | tuple ds =>
    have len : Pv (asB (m2 neD (lenVE 0) (ret (.int (n : Nat))))) E (!(((ds.length : Nat) : Int) == (n : Nat))) := pv_asB (pv_m2 (pv_len hs rfl) (pv_ret _) (neD_int _ _))
    cases ds with
    | nil =>
      have e : (!headB (.tuple []) k n) = (!isiB "tuple" (.tuple []) || (!((([] : List PyData).length : Int) == ((n : Nat) : Int)) || true)) := by
        simp [headB]
      rw [e]
      refine pv_or start fun _ => pv_or len fun h => ?_
      simp at h
      omega
    | cons a r =>
      have ix : Pv (ixV 0 (ret (.int 0))) E a := pv_ixV hs (pv_ret _) (ix_tup (ds := a :: r) (i := 0) (d := a) rfl)
      have is := pv_not (pv_asB (pv_isi (T := "str") ix))
      have fa := (fit_tup hf).1 a List.mem_cons_self
      have other : ∀ {g : M Bool}, isiB "str" a = false → headB (.tuple (a :: r)) k n = false → Pv (orT (notT (asB (isiE "tuple" (getV 0)))) (orT (asB (m2 neD (lenVE 0) (ret (.int (n : Nat))))) (orT (notT (asB (isiE "str" (ixV 0 (ret (.int 0)))))) g))) E (!headB (.tuple (a :: r)) k n) := fun {g} h1 h2 => by
        have e : (!headB (.tuple (a :: r)) k n) = (!isiB "tuple" (.tuple (a :: r)) || (!((((a :: r).length : Nat) : Int) == ((n : Nat) : Int)) || (!isiB "str" a || true))) := by
          rw [h2]
          simp
        rw [e]
        refine pv_or start fun _ => pv_or len fun _ => pv_or is fun h => ?_
        rw [h1] at h
        cases h
      cases a with
      | str z =>
        have e : (!headB (.tuple (.str z :: r)) k n) = (!isiB "tuple" (.tuple (.str z :: r)) || (!((((PyData.str z :: r).length : Nat) : Int) == ((n : Nat) : Int)) || (!isiB "str" (.str z) || !(z == k)))) := by
          have e1 : ((((PyData.str z :: r).length : Nat) : Int) == ((n : Nat) : Int)) = (r.length + 1 == n) := by
            rw [Bool.eq_iff_iff]
            simp
            omega
          rw [e1]
          show (!(r.length + 1 == n && z == k)) = (!true || (!(r.length + 1 == n) || (!true || !(z == k))))
          cases (r.length + 1 == n) <;> rfl
        rw [e]
        exact pv_or start fun _ => pv_or len fun _ => pv_or is fun _ => pv_asB (pv_m2 ix (pv_ret _) (neD_str z k (fit_str fa).1 hk))
      | _ => exact other rfl rfl
  | _ => exact off rfl rfl
theorem name_str {d : PyData} (h : nameB d = true) : ∃ x, d = .str x := by
  cases d with
  | str x => exact ⟨x, rfl⟩
  | _ => cases h
theorem names_strs {ds : List PyData} (h : ds.all nameB = true) : ∀ d ∈ ds, ∃ x, d = .str x := fun d hd => name_str (List.all_eq_true.mp h d hd)
def cntB (ds : List PyData) : Bool := (((cntK (ds.map keyF) : Nat) : Int) == (ds.length : Nat))
def spanB (ds : List PyData) (m : Int) : Bool := decide ((1 : Int) ≤ (ds.length : Nat)) && decide (((ds.length : Nat) : Int) ≤ m)
def namesB (m : Int) : PyData → Bool
  | .tuple ds => spanB ds m && ds.all nameB && cntB ds
  | _ => false
theorem span_len {ds : List PyData} {m : Int} (h : spanB ds m = true) (hm : m ≤ 1000) : ds.length < 4000 := by
  unfold spanB at h
  rw [Bool.and_eq_true, decide_eq_true_eq, decide_eq_true_eq] at h
  omega
theorem nor_f {a b : Bool} (h : (!a || !b) = true) : (a && b) = false := by cases a <;> cases b <;> first | rfl | cases h
theorem nor_t {a b : Bool} (h : (!a || !b) = false) : a = true ∧ b = true := by cases a <;> cases b <;> first | exact ⟨rfl, rfl⟩ | cases h
theorem p_are_names (d : PyData) (m : Int) (hd : fitD d = true) (hm : m ≤ 1000) : m_are_names [d, .int m] = some (.ok (.bool (namesB m d))) := by
  cases d with
  | tuple ds =>
    obtain ⟨hf, hl⟩ := fit_tup hd
    refine fnD_ok rfl ?_
    show Ws g_are_names [.dat (.tuple ds), .dat (.int m), .un] _
    unfold g_are_names
    have span : Pv (asB (chD leD leD (ret (.int 1)) (lenVE 0) (getV 1))) [.dat (.tuple ds), .dat (.int m), .un] (spanB ds m) := pv_asB (pv_ch (pv_ret _) (pv_len rfl rfl) rfl fun _ => ⟨pv_get rfl, rfl⟩)
    have alls : Pv (asB (calQ allQ (sqF (lcE [2] (.nm 2) (itF (.nm 2) (getV 0)) yesT (callE m_is_name (consA (getV 2) nilA)))))) [.dat (.tuple ds), .dat (.int m), .un] (ds.all nameB) :=
      pv_asB (pv_calQ (pv_sqF (pv_map (fun d => .bool (nameB d)) rfl (pv_itF (pv_get rfl) rfl (by simp [fitT])) fun d hd => ⟨_, rfl, rfl, pv_call (pv_cons (pv_get rfl) pv_nil) (p_is_name d (hf d hd))⟩)) (allQ_map nameB ds))
    refine ws_seq (ws_ifv (pv_or (pv_not (pv_asB (pv_isi (pv_get rfl)))) fun _ => pv_or (pv_not span) fun _ => pv_not alls) (fun hb => ?_) fun hb => ?_)
    · refine ws_retv (pv_ret _) ?_
      have hb : (!spanB ds m || !ds.all nameB) = true := hb
      show PyData.bool false = PyData.bool (spanB ds m && ds.all nameB && cntB ds)
      have h2 : (spanB ds m && ds.all nameB) = false := nor_f hb
      rw [h2]
      rfl
    · have hb : (!spanB ds m || !ds.all nameB) = false := hb
      rw [← Bool.not_and, Bool.not_eq_false'] at hb
      have h2 := Bool.and_eq_true_iff.mp hb
      refine ws_nx (ws_retv (pv_m2 (pv_lenSet (pv_lookT rfl) (cnt_strs (names_strs h2.2) (span_len h2.1 hm))) (pv_len rfl rfl) (eqD_int _ _)) ?_)
      show PyData.bool (cntB ds) = PyData.bool (spanB ds m && ds.all nameB && cntB ds)
      rw [hb]
      rfl
  | _ => rfl
def callB : PyData → Bool
  | .tuple [.str k, a, b] => k == "call" && (nameB a && namesB 5 b)
  | _ => false
theorem head_tup {d : PyData} {k : Str} {n : Nat} (h : headB d k n = true) : ∃ r, d = .tuple (.str k :: r) ∧ r.length + 1 = n := by
  unfold headB at h
  split at h
  · rename_i z r
    rw [Bool.and_eq_true] at h
    have e : z = k := by simpa using h.2
    subst e
    exact ⟨r, rfl, by simpa using h.1⟩
  · cases h
theorem len2 {r : List PyData} (h : r.length + 1 = 3) : ∃ a b, r = [a, b] := by
  match r, h with
  | [a, b], _ => exact ⟨a, b, rfl⟩
theorem len1 {r : List PyData} (h : r.length + 1 = 2) : ∃ a, r = [a] := by
  match r, h with
  | [a], _ => exact ⟨a, rfl⟩
theorem call_head {d : PyData} (h : headB d "call" 3 = false) : callB d = false := by
  unfold callB
  split
  · rename_i k a b
    have : (k == "call") = false := by simpa [headB] using h
    rw [this]
    rfl
  · rfl
theorem p_is_call (d : PyData) (hd : fitD d = true) : m_is_call [d] = some (.ok (.bool (callB d))) := by
  refine fnD_ok rfl ?_
  show Ws g_is_call [.dat d] _
  unfold g_is_call
  refine ws_seq (ws_ifv (head_or (n := 3) (k := "call") rfl hd (by decide +kernel) (by decide)) (fun hb => ?_) fun hb => ?_)
  · refine ws_retv (pv_ret _) ?_
    show PyData.bool false = PyData.bool (callB d)
    rw [call_head (by simpa using hb)]
  · have hb : headB d "call" 3 = true := by simpa using hb
    obtain ⟨r, rfl, hr⟩ := head_tup hb
    obtain ⟨a, b, rfl⟩ := len2 hr
    have ff := (fit_tup hd).1
    refine ws_nx (ws_retv (pv_andV (pv_call (pv_cons (pv_ixV rfl (pv_ret _) (ix_tup (i := 1) (d := a) rfl)) pv_nil) (p_is_name a (ff a (by simp)))) fun _ => pv_call (pv_cons (pv_ixV rfl (pv_ret _) (ix_tup (i := 2) (d := b) rfl)) (pv_cons (pv_ret _) pv_nil)) (p_are_names b 5 (ff b (by simp)) (by decide))) ?_)
    rfl
/-! houses -/
def part (i : Nat) : PyData → PyData
  | .tuple ds => ds.getD i .none
  | _ => .none
def nameOf (c : PyData) : PyData := part 1 c
def houseB : PyData → Bool
  | .tuple [.str k, .tuple cs] => k == "house" && (spanB cs 5 && cs.all callB && cntB (cs.map nameOf))
  | _ => false
theorem call_form {c : PyData} (h : callB c = true) : ∃ x ds, c = .tuple [.str "call", .str x, .tuple ds] ∧ nameB (.str x) = true ∧ namesB 5 (.tuple ds) = true := by
  unfold callB at h
  split at h
  · rename_i k a b
    rw [Bool.and_eq_true, Bool.and_eq_true] at h
    have e : k = "call" := by simpa using h.1
    subst e
    obtain ⟨x, rfl⟩ := name_str h.2.1
    cases b with
    | tuple ds => exact ⟨x, ds, rfl, h.2.1, h.2.2⟩
    | _ => cases h.2.2
  · cases h
theorem calls_names {cs : List PyData} (h : cs.all callB = true) : ∀ d ∈ cs.map nameOf, ∃ x, d = .str x := fun d hd => by
  obtain ⟨c, hc, rfl⟩ := List.mem_map.mp hd
  obtain ⟨x, ds, rfl, _⟩ := call_form (List.all_eq_true.mp h c hc)
  exact ⟨x, rfl⟩
theorem house_head {d : PyData} (h : headB d "house" 2 = false) : houseB d = false := by
  unfold houseB
  split
  · rename_i k cs
    have : (k == "house") = false := by simpa [headB] using h
    rw [this]
    rfl
  · rfl
theorem p_is_house (d : PyData) (hd : fitD d = true) : m_is_house [d] = some (.ok (.bool (houseB d))) := by
  refine fnD_ok rfl ?_
  show Ws g_is_house [.dat d, .un] _
  unfold g_is_house
  refine ws_seq (ws_ifv (head_or (n := 2) (k := "house") rfl hd (by decide +kernel) (by decide)) (fun hb => ?_) fun hb => ?_)
  · refine ws_retv (pv_ret _) ?_
    show PyData.bool false = PyData.bool (houseB d)
    rw [house_head (by simpa using hb)]
  · have hb : headB d "house" 2 = true := by simpa using hb
    obtain ⟨r, rfl, hr⟩ := head_tup hb
    obtain ⟨a, rfl⟩ := len1 hr
    have fa := (fit_tup hd).1 a (by simp)
    have ix : ∀ {E : En}, E[0]? = some (.dat (.tuple [.str "house", a])) → Pv (ixV 0 (ret (.int 1))) E a := fun {E} h => pv_ixV (by rw [h]; rfl) (pv_ret _) (ix_tup (i := 1) (d := a) rfl)
    refine ws_nx (ws_seq ?_)
    cases a with
    | tuple cs =>
      obtain ⟨hf, hl⟩ := fit_tup fa
      have span : Pv (asB (chD leD leD (ret (.int 1)) (calE (c1 lenD) (consA (ixV 0 (ret (.int 1))) nilA)) (ret (.int 5)))) [.dat (.tuple [.str "house", .tuple cs]), .un] (spanB cs 5) :=
        pv_asB (pv_ch (pv_ret _) (pv_calE (pv_cons (ix rfl) pv_nil) rfl) rfl fun _ => ⟨pv_ret _, rfl⟩)
      have alls : Pv (asB (calQ allQ (sqF (lcE [1] (.nm 1) (itF (.nm 1) (ixV 0 (ret (.int 1)))) yesT (callE m_is_call (consA (getV 1) nilA)))))) [.dat (.tuple [.str "house", .tuple cs]), .un] (cs.all callB) :=
        pv_asB (pv_calQ (pv_sqF (pv_map (fun d => .bool (callB d)) rfl (pv_itF (ix rfl) rfl (by simp [fitT])) fun d hd => ⟨_, rfl, rfl, pv_call (pv_cons (pv_get rfl) pv_nil) (p_is_call d (hf d hd))⟩)) (allQ_map callB cs))
      refine ws_ifv (pv_or (pv_not (pv_asB (pv_isi (ix rfl)))) fun _ => pv_or (pv_not span) fun _ => pv_not alls) (fun hb => ?_) fun hb => ?_
      · refine ws_retv (pv_ret _) ?_
        have hb : (!spanB cs 5 || !cs.all callB) = true := hb
        show PyData.bool false = PyData.bool (true && (spanB cs 5 && cs.all callB && cntB (cs.map nameOf)))
        rw [nor_f hb]
        rfl
      · have hb : (!spanB cs 5 || !cs.all callB) = false := hb
        obtain ⟨h1, h2⟩ := nor_t hb
        have names : Pv (lcE [1] (.nm 1) (itF (.nm 1) (ixV 0 (ret (.int 1)))) yesT (ixV 1 (ret (.int 1)))) [.dat (.tuple [.str "house", .tuple cs]), .un] (cs.map nameOf) := pv_map nameOf rfl (pv_itF (ix rfl) rfl (by simp [fitT])) fun c hc => by
          obtain ⟨x, ds, rfl, _⟩ := call_form (List.all_eq_true.mp h2 c hc)
          exact ⟨_, rfl, rfl, pv_ixV rfl (pv_ret _) (ix_tup (i := 1) rfl)⟩
        refine ws_nx (ws_retv (pv_m2 (pv_lenSc names (cnt_strs (calls_names h2) (by rw [List.length_map]; exact span_len h1 (by decide)))) (pv_calE (pv_cons (ix rfl) pv_nil) rfl) (eqD_int _ _)) ?_)
        show PyData.bool _ = PyData.bool (true && (spanB cs 5 && cs.all callB && cntB (cs.map nameOf)))
        rw [h1, h2]
        unfold cntB
        rw [List.length_map]
        rfl
    | _ =>
      refine ws_ifv (b := true) (pv_or (b := true) (pv_not (pv_asB (pv_isi (ix rfl)))) fun h => nomatch h) (fun _ => ?_) fun h => nomatch h
      exact ws_retv (pv_ret _) rfl
end K19

set_option maxHeartbeats 4000000
namespace K19
open PySem PySem.Spec PyProof.Rows L2 He Sa NdefX RZ
/-! different names -/
theorem metK_full : ∀ {ks acc : List Key}, (metK acc ks).length = acc.length + ks.length → ks.Nodup ∧ ∀ k ∈ ks, k ∉ acc
  | [], acc, _ => ⟨.nil, fun k h => nomatch h⟩
  | x :: ks, acc, h => by
    have h : (metK (if x ∈ acc then acc else acc ++ [x]) ks).length = acc.length + (ks.length + 1) := h
    by_cases e : x ∈ acc
    · rw [if_pos e] at h
      have := metK_len ks acc
      omega
    · rw [if_neg e] at h
      obtain ⟨h1, h2⟩ := metK_full (ks := ks) (acc := acc ++ [x]) (by rw [h, List.length_append]; simp; omega)
      refine ⟨List.nodup_cons.mpr ⟨fun hx => h2 x hx (by simp), h1⟩, fun k hk => ?_⟩
      rcases List.mem_cons.mp hk with rfl | hk
      · exact e
      · exact fun hm => h2 k hk (List.mem_append_left _ hm)
theorem cnt_nodup {ds : List PyData} (h : cntB ds = true) : (ds.map keyF).Nodup := by
  unfold cntB at h
  have e : cntK (ds.map keyF) = ds.length := by
    have := eq_of_beq h
    omega
  exact (metK_full (acc := []) (by show cntK _ = _; rw [e]; simp)).1
theorem small_ok : smallS.cps.toList.all (· < 0x110000) = true := by decide +kernel
theorem name_ok {x : Str} (h : nameB (.str x) = true) : PyData.strOk x = true := by
  have h : (!nameT x && x.cps.toList.all smallC) = true := h
  have h2 := (Bool.and_eq_true_iff.mp h).2
  unfold PyData.strOk
  rw [← Array.all_toList]
  refine List.all_eq_true.mpr fun c hc => ?_
  have := List.all_eq_true.mp h2 c hc
  exact List.all_eq_true.mp small_ok c (of_decide_eq_true this)
theorem names_strsD {ds : List PyData} (h : ds.all nameB = true) : strsD ds := fun d hd => by
  have hn := List.all_eq_true.mp h d hd
  obtain ⟨x, rfl⟩ := name_str hn
  exact ⟨x, rfl, name_ok hn⟩
/-! houses -/
structure HouseOk (cs : List PyData) : Prop where
  span : spanB cs 5 = true
  all : cs.all callB = true
  cnt : cntB (cs.map nameOf) = true
def hs (cs : List PyData) : PyData := .tuple [.str "house", .tuple cs]
theorem house_form {d : PyData} (h : houseB d = true) : ∃ cs, d = hs cs ∧ HouseOk cs := by
  unfold houseB at h
  split at h
  · rename_i k cs
    rw [Bool.and_eq_true, Bool.and_eq_true, Bool.and_eq_true] at h
    have e : k = "house" := by simpa using h.1
    subst e
    exact ⟨cs, rfl, ⟨h.2.1.1, h.2.1.2, h.2.2⟩⟩
  · cases h
theorem house_of {cs : List PyData} (h : HouseOk cs) : houseB (hs cs) = true := by
  show (("house" == ("house" : Str)) && (spanB cs 5 && cs.all callB && cntB (cs.map nameOf))) = true
  rw [h.span, h.all, h.cnt]
  rfl
theorem HouseOk.call {cs : List PyData} (h : HouseOk cs) {c : PyData} (hc : c ∈ cs) : ∃ x ds, c = .tuple [.str "call", .str x, .tuple ds] ∧ nameB (.str x) = true ∧ namesB 5 (.tuple ds) = true := call_form (List.all_eq_true.mp h.all c hc)
theorem HouseOk.names {cs : List PyData} (h : HouseOk cs) : strsD (cs.map nameOf) := fun d hd => by
  obtain ⟨c, hc, rfl⟩ := List.mem_map.mp hd
  obtain ⟨x, ds, rfl, hn, _⟩ := h.call hc
  exact ⟨x, rfl, name_ok hn⟩
theorem namesB_all {ds : List PyData} {m : Int} (h : namesB m (.tuple ds) = true) : ds.all nameB = true := by
  have h : (spanB ds m && ds.all nameB && cntB ds) = true := h
  exact (Bool.and_eq_true_iff.mp (Bool.and_eq_true_iff.mp h).1).2
theorem p_calls_of {cs : List PyData} (h : HouseOk cs) : m_calls_of [hs cs] = some (.ok (.tuple (cs.map nameOf))) := by
  refine fnD_ok rfl ?_
  show Ws g_calls_of [.dat (hs cs), .un] _
  unfold g_calls_of
  refine ws_retv (pv_calQ (pv_sqF (pv_map nameOf rfl (pv_itF (pv_ixV rfl (pv_ret _) (ix_tup (i := 1) (d := .tuple cs) rfl)) rfl (by simp [fitT])) fun c hc => ?_)) rfl) rfl
  obtain ⟨x, ds, rfl, _⟩ := h.call hc
  exact ⟨_, rfl, rfl, pv_ixV rfl (pv_ret _) (ix_tup (i := 1) rfl)⟩
theorem find_at {α : Type} {l : List α} {p : α → Bool} {i : Nat} {a : α} (h : l[i]? = some a) (hp : p a = true) (u : ∀ j b, j < i → l[j]? = some b → p b = false) : l.findIdx? p = some i := by
  obtain ⟨hi, e⟩ := List.getElem?_eq_some_iff.mp h
  refine List.findIdx?_eq_some_iff_getElem.mpr ⟨hi, by rw [e]; exact hp, fun j hj => ?_⟩
  have := u j _ hj (List.getElem?_eq_getElem (Nat.lt_trans hj hi))
  simp [this]
theorem idx_name {cs : List PyData} (h : HouseOk cs) {i : Nat} {c : PyData} (hc : cs[i]? = some c) : idxO (nameOf c) (cs.map nameOf) = some i := by
  obtain ⟨x, ds, rfl, hn, _⟩ := h.call (List.mem_of_getElem? hc)
  have e : nameOf (.tuple [.str "call", .str x, .tuple ds]) = .str x := rfl
  rw [e]
  unfold idxO
  rw [if_pos ⟨str_shaped (name_ok hn), (strs_shaped h.names).2⟩]
  have nd := cnt_nodup h.cnt
  refine find_at (a := .str x) (by rw [List.getElem?_map, hc]; rfl) (by simp [PyData.eqv]) fun j b hj hb => ?_
  obtain ⟨y, rfl, _⟩ := h.names b (List.mem_of_getElem? hb)
  cases q : PyData.eqv (.str y) (.str x) with
  | false => rfl
  | true =>
    have eq : y = x := by simpa [PyData.eqv] using q
    subst eq
    have k1 : ((cs.map nameOf).map keyF)[j]? = some (.inr y) := by rw [List.getElem?_map, hb]; rfl
    have k2 : ((cs.map nameOf).map keyF)[i]? = some (.inr y) := by rw [List.getElem?_map, List.getElem?_map, hc]; rfl
    obtain ⟨h1, e1⟩ := List.getElem?_eq_some_iff.mp k1
    obtain ⟨h2, e2⟩ := List.getElem?_eq_some_iff.mp k2
    exact absurd (e1.trans e2.symm) (List.pairwise_iff_getElem.mp nd j i h1 h2 hj)
theorem p_answers_of {cs : List PyData} (h : HouseOk cs) {i : Nat} {c : PyData} (hc : cs[i]? = some c) : m_answers_of [hs cs, nameOf c] = some (.ok (part 2 c)) := by
  refine fnD_ok rfl ?_
  show Ws g_answers_of [.dat (hs cs), .dat (nameOf c)] _
  unfold g_answers_of
  have hi := idx_name h hc
  obtain ⟨x, ds, rfl, hn, _⟩ := h.call (List.mem_of_getElem? hc)
  have ix : Pv (idxE (callE m_calls_of (consA (getV 0) nilA)) (getV 1)) [.dat (hs cs), .dat (nameOf (.tuple [.str "call", .str x, .tuple ds]))] (.int (i : Nat)) := by
    unfold idxE
    refine pv_bnd (pv_call (pv_cons (pv_get rfl) pv_nil) (p_calls_of h)) ?_
    refine pv_bnd (a := nameOf (.tuple [.str "call", .str x, .tuple ds])) (pv_get rfl) ?_
    unfold Pv
    rw [hi]
    rfl
  refine ws_retv (pv_m2 (pv_m2 (pv_ixV rfl (pv_ret _) (ix_tup (i := 1) (d := .tuple cs) rfl)) ix (ix_tup hc)) (pv_ret _) (ix_tup (i := 2) (d := .tuple ds) rfl)) rfl
def callNameB (cs : List PyData) : PyData → Bool
  | .str x => memS x (cs.map nameOf)
  | _ => false
theorem p_is_call_name {cs : List PyData} (h : HouseOk cs) {d : PyData} (hd : fitD d = true) : m_is_call_name [hs cs, d] = some (.ok (.bool (callNameB cs d))) := by
  refine fnD_ok rfl ?_
  show Ws g_is_call_name [.dat (hs cs), .dat d] _
  unfold g_is_call_name
  cases d with
  | str x => exact ws_retv (pv_andV (pv_isi (pv_get rfl)) fun _ => pv_m2 (pv_get rfl) (pv_call (pv_cons (pv_get rfl) pv_nil) (p_calls_of h)) (inE_tup (fit_str hd).1 (strs_shaped h.names).1)) rfl
  | _ => exact ws_retv (pv_andV (b := true) (pv_isi (pv_get rfl)) fun h => nomatch h) rfl
def tupOf : PyData → List PyData
  | .tuple ds => ds
  | _ => []
def ansB (c : PyData) : PyData → Bool
  | .str x => memS x (tupOf (part 2 c))
  | _ => false
theorem p_is_answer {cs : List PyData} (h : HouseOk cs) {i : Nat} {c d : PyData} (hc : cs[i]? = some c) (hd : fitD d = true) : m_is_answer [hs cs, nameOf c, d] = some (.ok (.bool (ansB c d))) := by
  refine fnD_ok rfl ?_
  show Ws g_is_answer [.dat (hs cs), .dat (nameOf c), .dat d] _
  unfold g_is_answer
  have ha := p_answers_of h hc
  obtain ⟨x, ds, rfl, hn, hm⟩ := h.call (List.mem_of_getElem? hc)
  cases d with
  | str y => exact ws_retv (pv_andV (pv_isi (pv_get rfl)) fun _ => pv_m2 (pv_get rfl) (pv_call (pv_cons (pv_get rfl) (pv_cons (pv_get rfl) pv_nil)) ha) (inE_tup (fit_str hd).1 (strs_shaped (names_strsD (namesB_all hm))).1)) rfl
  | _ => exact ws_retv (pv_andV (b := true) (pv_isi (pv_get rfl)) fun h => nomatch h) rfl
def wordB (cs : List PyData) : PyData → Bool
  | .tuple ds => ds.all (callNameB cs)
  | _ => false
theorem p_is_word_of {cs : List PyData} (h : HouseOk cs) {d : PyData} (hd : fitD d = true) : m_is_word_of [hs cs, d] = some (.ok (.bool (wordB cs d))) := by
  refine fnD_ok rfl ?_
  show Ws g_is_word_of [.dat (hs cs), .dat d, .un] _
  unfold g_is_word_of
  cases d with
  | tuple ds => exact ws_retv (pv_andV (pv_isi (pv_get rfl)) fun _ => pv_calQ (pv_sqF (pv_map (fun d => .bool (callNameB cs d)) rfl (pv_itF (pv_get rfl) rfl (by simp [fitT])) fun e he => ⟨_, rfl, rfl, pv_call (pv_cons (pv_get rfl) (pv_cons (pv_get rfl) pv_nil)) (p_is_call_name h ((fit_tup hd).1 e he))⟩)) (allQ_map _ ds)) rfl
  | _ => exact ws_retv (pv_andV (b := true) (pv_isi (pv_get rfl)) fun h => nomatch h) rfl
def pairB (c : PyData) (many : Int) : PyData → Bool
  | .tuple [a, .int j] => ansB c a && (decide (0 ≤ j) && decide (j < many))
  | _ => false
theorem pair_no {c : PyData} {many : Int} {d : PyData} (h : ∀ a j, d = .tuple [a, .int j] → ansB c a = false) : pairB c many d = false := by
  unfold pairB
  split
  · rw [h _ _ rfl]
    rfl
  · rfl
theorem p_is_pair {cs : List PyData} (h : HouseOk cs) {i : Nat} {c d : PyData} {many : Int} (hc : cs[i]? = some c) (hd : fitD d = true) : m_is_pair [hs cs, nameOf c, .int many, d] = some (.ok (.bool (pairB c many d))) := by
  refine fnD_ok rfl ?_
  show Ws g_is_pair [.dat (hs cs), .dat (nameOf c), .dat (.int many), .dat d] _
  unfold g_is_pair
  refine ws_seq ?_
  cases d with
  | tuple ds =>
    have start : Pv (notT (asB (isiE "tuple" (getV 3)))) [.dat (hs cs), .dat (nameOf c), .dat (.int many), .dat (.tuple ds)] false := (pv_not (pv_asB (pv_isi (pv_get rfl)))).to rfl
    have len : Pv (asB (m2 neD (lenVE 3) (ret (.int 2)))) [.dat (hs cs), .dat (nameOf c), .dat (.int many), .dat (.tuple ds)] (!(((ds.length : Nat) : Int) == 2)) := pv_asB (pv_m2 (pv_len (d := .tuple ds) rfl rfl) (pv_ret _) (neD_int _ _))
    have off : ¬ ds.length = 2 → pairB c many (.tuple ds) = false := fun hne => pair_no fun a j e => by
      cases e
      exact absurd rfl hne
    match ds with
    | [a, b] =>
      have ff := (fit_tup hd).1
      refine ws_ifv (pv_or start fun _ => pv_or len fun _ => pv_not (pv_asB (pv_call (pv_cons (pv_get rfl) (pv_cons (pv_get rfl) (pv_cons (pv_ixV rfl (pv_ret _) (ix_tup (i := 0) (d := a) rfl)) pv_nil))) (p_is_answer h hc (ff a (by simp)))))) (fun hb => ?_) fun hb => ?_
      · have hb : (!ansB c a) = true := hb
        refine ws_retv (pv_ret _) ?_
        show PyData.bool false = PyData.bool (pairB c many (.tuple [a, b]))
        rw [pair_no fun a2 j e => by cases e; simpa using hb]
      · have hb2 : ansB c a = true := by
          have hb : (!ansB c a) = false := hb
          simpa using hb
        cases b with
        | int j =>
          refine ws_nx (ws_retv (pv_andV (pv_call (pv_cons (pv_ixV rfl (pv_ret _) (ix_tup (i := 1) (d := .int j) rfl)) pv_nil) (p_is_number _)) fun _ => pv_ch (pv_ret _) (pv_ixV rfl (pv_ret _) (ix_tup (i := 1) (d := .int j) rfl)) rfl fun _ => ⟨pv_get rfl, rfl⟩) ?_)
          show PyData.bool _ = PyData.bool (ansB c a && _)
          rw [hb2]
          rfl
        | _ => exact ws_nx (ws_retv (pv_andV_f (pv_call (pv_cons (pv_ixV rfl (pv_ret _) (ix_tup (i := 1) rfl)) pv_nil) (p_is_number _)) rfl) rfl)
    | [] =>
      refine ws_ifv (b := true) (pv_or_f start rfl (pv_or_t len rfl)) (fun _ => ws_retv (pv_ret _) ?_) fun h => nomatch h
      rfl
    | [_] =>
      refine ws_ifv (b := true) (pv_or_f start rfl (pv_or_t len rfl)) (fun _ => ws_retv (pv_ret _) ?_) fun h => nomatch h
      rfl
    | a :: b :: e :: r =>
      have z : (!((((a :: b :: e :: r).length : Nat) : Int) == 2)) = true := by
        simp
        omega
      rw [z] at len
      refine ws_ifv (b := true) (pv_or_f start rfl (pv_or_t len rfl)) (fun _ => ws_retv (pv_ret _) ?_) fun h => nomatch h
      show PyData.bool false = PyData.bool (pairB c many _)
      rw [off (by simp)]
  | _ => exact ws_ifv (b := true) (pv_or_t (pv_not (pv_asB (pv_isi (pv_get rfl)))) rfl) (fun _ => ws_retv (pv_ret _) rfl) fun h => nomatch h
/-! programs -/
def rowB (cs : List PyData) (many : Int) : PyData → Bool
  | .tuple ps => ps.length == cs.length && (cs.zip ps).all fun z => pairB z.1 many z.2
  | _ => false
def progB : PyData → Bool
  | .tuple [.str k, h, .tuple rows] => k == "program" && (houseB h && (!rows.isEmpty && rows.all (rowB (tupOf (part 1 h)) (rows.length : Nat))))
  | _ => false
theorem prog_head {d : PyData} (h : headB d "program" 3 = false) : progB d = false := by
  unfold progB
  split
  · rename_i k a b
    have : (k == "program") = false := by simpa [headB] using h
    rw [this]
    rfl
  · rfl
theorem p_is_program (d : PyData) (hd : fitD d = true) : m_is_program [d] = some (.ok (.bool (progB d))) := by
  refine fnD_ok rfl ?_
  show Ws g_is_program [.dat d, .un, .un, .un, .un, .un] _
  unfold g_is_program
  refine ws_seq (ws_ifv (head_or (n := 3) (k := "program") rfl hd (by decide +kernel) (by decide)) (fun hb => ?_) fun hb => ?_)
  · refine ws_retv (pv_ret _) ?_
    show PyData.bool false = PyData.bool (progB d)
    rw [prog_head (by simpa using hb)]
  · have hb : headB d "program" 3 = true := by simpa using hb
    obtain ⟨r, rfl, hr⟩ := head_tup hb
    obtain ⟨a, b, rfl⟩ := len2 hr
    have ff := (fit_tup hd).1
    have fa := ff a (by simp)
    have fb := ff b (by simp)
    have ix1 : ∀ {E : En}, E[0]? = some (.dat (.tuple [.str "program", a, b])) → Pv (ixV 0 (ret (.int 1))) E a := fun {E} h => pv_ixV (by rw [h]; rfl) (pv_ret _) (ix_tup (i := 1) (d := a) rfl)
    have ix2 : ∀ {E : En}, E[0]? = some (.dat (.tuple [.str "program", a, b])) → Pv (ixV 0 (ret (.int 2))) E b := fun {E} h => pv_ixV (by rw [h]; rfl) (pv_ret _) (ix_tup (i := 2) (d := b) rfl)
    refine ws_nx (ws_seq ?_)
    have house : ∀ {E : En}, E[0]? = some (.dat (.tuple [.str "program", a, b])) → Pv (notT (asB (callE m_is_house (consA (ixV 0 (ret (.int 1))) nilA)))) E (!houseB a) := fun {E} h => pv_not (pv_asB (pv_call (pv_cons (ix1 h) pv_nil) (p_is_house a fa)))
    cases hh : houseB a with
    | false =>
      refine ws_ifv (b := true) (pv_or_t (house rfl) (by rw [hh]; rfl)) (fun _ => ws_retv (pv_ret _) ?_) fun h => nomatch h
      cases b with
      | tuple rows =>
        show PyData.bool false = PyData.bool (true && (houseB a && _))
        rw [hh]
        rfl
      | _ => rfl
    | true =>
      obtain ⟨cs, rfl, ok⟩ := house_form hh
      cases b with
      | tuple rows =>
        obtain ⟨fr, fl⟩ := fit_tup fb
        refine ws_ifv (pv_or_f (house rfl) (by rw [hh]; rfl) (pv_or_f (pv_not (pv_asB (pv_isi (ix2 rfl)))) rfl (pv_asB (pv_m2 (ix2 rfl) (pv_tup pv_nil (by decide)) (eqD_nil rows))))) (fun he => ?_) fun he => ?_
        · refine ws_retv (pv_ret _) ?_
          show PyData.bool false = PyData.bool (true && (houseB (hs cs) && (!rows.isEmpty && _)))
          rw [hh, he]
          rfl
        · refine ws_nx (ws_seq (ws_asg ((pv_tup (pv_cons (pv_call (pv_cons (ix1 rfl) pv_nil) (p_calls_of ok)) (pv_cons (pv_calE (pv_cons (ix2 rfl) pv_nil) rfl) pv_nil)) two_le).wp ⟨_, rfl, ?_⟩)))
          refine ws_seq (ws_for ((pv_itF (ix2 rfl) rfl (by simp [fitT])).wp ⟨fun i E => (∀ j r, j < i → rows[j]? = some r → rowB cs (rows.length : Nat) r = true) ∧ ∃ x, E = [.dat (.tuple [.str "program", hs cs, .tuple rows]), .dat (.tuple (cs.map nameOf)), .dat (.int (rows.length : Nat)), x, .un, .un],
            ⟨fun j r hj => absurd hj (Nat.not_lt_zero _), _, rfl⟩, ?_, ?_⟩))
          · rintro i E row hrow ⟨hall, x, rfl⟩
            have frow := fr row (List.mem_of_getElem? hrow)
            refine ⟨_, rfl, ws_seq ?_⟩
            have none : rowB cs (rows.length : Nat) row = false → PyData.bool false = PyData.bool (progB (.tuple [.str "program", hs cs, .tuple rows])) := fun hn => by
              show PyData.bool false = PyData.bool (true && (houseB (hs cs) && (!rows.isEmpty && rows.all (rowB cs (rows.length : Nat)))))
              rw [all_no hrow hn]
              cases houseB (hs cs) <;> cases rows.isEmpty <;> rfl
            cases row with
            | tuple ps =>
              have frs := (fit_tup frow).1
              have len : Pv (asB (m2 neD (lenVE 3) (lenVE 1))) [.dat (.tuple [.str "program", hs cs, .tuple rows]), .dat (.tuple (cs.map nameOf)), .dat (.int (rows.length : Nat)), .dat (.tuple ps), .un, .un] (!(((ps.length : Nat) : Int) == ((cs.map nameOf).length : Nat))) := pv_asB (pv_m2 (pv_len (d := .tuple ps) rfl rfl) (pv_len (d := .tuple (cs.map nameOf)) rfl rfl) (neD_int _ _))
              refine ws_ifv (pv_or_f (pv_not (pv_asB (pv_isi (pv_get rfl)))) rfl len) (fun hl => ?_) fun hl => ?_
              · refine ws_retv (pv_ret _) (none ?_)
                have hne : (ps.length == cs.length) = false := by
                  simp at hl ⊢
                  omega
                show (ps.length == cs.length && _) = false
                rw [hne]
                rfl
              · have heq : ps.length = cs.length := by
                  simp at hl
                  omega
                have pairs : Pv (notT (asB (calQ allQ (sqF (lcE [4, 5] (.tp [.nm 4, .nm 5]) (zipE (consA (getV 1) (consA (getV 3) nilA))) yesT (callE m_is_pair (consA (ixV 0 (ret (.int 1))) (consA (getV 4) (consA (getV 2) (consA (getV 5) nilA))))))))))
                    [.dat (.tuple [.str "program", hs cs, .tuple rows]), .dat (.tuple (cs.map nameOf)), .dat (.int (rows.length : Nat)), .dat (.tuple ps), .un, .un] (!((cs.zip ps).all fun z => pairB z.1 (rows.length : Nat) z.2)) := by
                  refine pv_not (pv_asB (pv_calQ (pv_sqF (pv_mapI (ys := (cs.zip ps).map fun z => .bool (pairB z.1 (rows.length : Nat) z.2)) rfl (pv_zipT (pv_cons (pv_get rfl) (pv_cons (pv_get rfl) pv_nil)) ?_) ?_ fun i d y hd hy => ?_)) (allQ_map _ _)))
                  · rw [List.length_map]
                    exact Nat.le_of_lt (Nat.lt_of_lt_of_le (span_len ok.span (by decide)) (by decide))
                  · rw [zipL_len]
                    simp
                  · rw [List.getElem?_map] at hy
                    cases hz : (cs.zip ps)[i]? with
                    | none =>
                      rw [hz] at hy
                      cases hy
                    | some z =>
                      obtain ⟨c, p⟩ := z
                      rw [hz] at hy
                      have ey := Option.some.inj hy
                      subst ey
                      obtain ⟨hc, hpp⟩ := List.getElem?_zip_eq_some.mp hz
                      have ed : d = .tuple [nameOf c, p] := by
                        have := zipL_get (cs.map nameOf) ps i (nameOf c) p (by rw [List.getElem?_map, hc]; rfl) hpp
                        rw [hd] at this
                        exact Option.some.inj this
                      subst ed
                      exact ⟨_, rfl, rfl, pv_call (pv_cons (ix1 rfl) (pv_cons (pv_get rfl) (pv_cons (pv_get rfl) (pv_cons (pv_get rfl) pv_nil)))) (p_is_pair ok hc (frs p (List.mem_of_getElem? hpp)))⟩
                refine ws_nx (ws_ifv pairs (fun hp => ?_) fun hp => ?_)
                · refine ws_retv (pv_ret _) (none ?_)
                  have hp : ((cs.zip ps).all fun z => pairB z.1 (rows.length : Nat) z.2) = false := by simpa using hp
                  show (ps.length == cs.length && _) = false
                  rw [hp, Bool.and_false]
                · have hp : ((cs.zip ps).all fun z => pairB z.1 (rows.length : Nat) z.2) = true := by simpa using hp
                  refine ws_nx ⟨fun j r hj hr => ?_, _, rfl⟩
                  by_cases e : j = i
                  · subst e
                    rw [hrow] at hr
                    cases hr
                    show (ps.length == cs.length && _) = true
                    rw [hp, heq]
                    simp
                  · exact hall j r (by omega) hr
            | _ =>
              refine ws_ifv (b := true) (pv_or_t (pv_not (pv_asB (pv_isi (pv_get rfl)))) rfl) (fun _ => ws_retv (pv_ret _) (none rfl)) fun h => nomatch h
          · rintro E ⟨hall, x, rfl⟩
            refine ws_retv (pv_ret _) ?_
            show PyData.bool true = PyData.bool (true && (houseB (hs cs) && (!rows.isEmpty && rows.all (rowB cs (rows.length : Nat)))))
            rw [hh, he, all_upto fun i r hr => hall i r (List.getElem?_eq_some_iff.mp hr).1 hr]
            rfl
      | _ =>
        refine ws_ifv (b := true) (pv_or_f (house rfl) (by rw [hh]; rfl) (pv_or_t (pv_not (pv_asB (pv_isi (ix2 rfl)))) rfl)) (fun _ => ws_retv (pv_ret _) rfl) fun h => nomatch h
end K19

set_option maxHeartbeats 4000000
namespace K19
open PySem PySem.Spec PyProof.Rows L2 He Sa NdefX RZ
section
variable {P : Program} {w : World} {K : PySem.W.Frag} {mg : Str → Option Value} {base : Heap}
abbrev Nbegun : List Str := ["_law_script", "_law_wide", "_law_grain"]
theorem scbegun : FnScope Nbegun ["_law_script"] (defScope sbegun) := ⟨rfl, rfl, rfl, by decide +kernel, rfl, by decide +kernel, by decide +kernel⟩
def spBegun (K : PySem.W.Frag) : Sp := fun vs H Q _ => ∃ (a : Addr) (ns : List Int), vs = [.ref a] ∧ SqL K H a (ns.map V.int) ∧ ns.length ≤ 63 ∧
  ∀ H' d aw ac, Same H H' → H d = none → H aw = none → H ac = none → Draw H' d aw ac 0 → Q (.ref d) H'
theorem c_begun (T : Tx sx K mg) : Cal P w K mg base "_law_begun" 1 ["_law_script"] (spBegun K) := by
  refine T.cal 18 rfl (by decide +kernel) scbegun (fun vs H Q E h => ?_) (fun _ _ _ _ _ _ us hl => match us, hl with | [_], _ => rfl) (fun cdv A outer s H vs Q E hr h => ?_)
  · obtain ⟨a, ns, rfl, _⟩ := h
    rfl
  · obtain ⟨a, ns, rfl, hS, hlen, k⟩ := h
    refine ⟨_, (pss_cons (ps_setLc (i := 1) (own := [("_law_grain", 2)]) (g := gName 2) rfl scbegun.nd rfl rfl (sw_true rfl rfl rfl (by decide +kernel)) (pi_list (pv 0)) (blkOk_by (N := Nbegun) (sc := defScope sbegun) (by decide +kernel)) (fun _ _ _ _ _ => (pg_name (i := 2) scbegun.nd rfl (Or.inl rfl))) (fun _ _ _ _ _ => (pts_one (pt_cmpR op_ge (pe_callB call_abs (by rfl) (T.free "abs") (by decide +kernel) (pa_cons (pv 2) pa_nil)) (pe_op op_pow pe_int pe_int) (nomark _)))) (fun _ _ _ _ _ => (pe_op op_sub (pe_callB call_abs (by rfl) (T.free "abs") (by decide +kernel) (pa_cons (pv 2) pa_nil)) (pe_op op_pow pe_int pe_int))))
    (pss_one (ps_ret (pe_disp (pps_cons pe_str (pv 1) (pps_cons pe_str (pe_lc (own := [("_law_grain", 2)]) (g := gName 2) (tt := tYes) rfl scbegun.nd (pi_list (pv 0)) (blkOk_by (N := Nbegun) (sc := defScope sbegun) (by decide +kernel)) (fun _ _ _ _ _ => (pg_name (i := 2) scbegun.nd rfl (Or.inl rfl))) (fun _ _ _ _ _ => pts_nil) (fun _ _ _ _ _ => (pe_op op_modN (pe_callTy call_int1 (by rfl) (T.free "int") (by decide +kernel) (pa_cons (pe_callB call_abs (by rfl) (T.free "abs") (by decide +kernel) (pa_cons (pv 2) pa_nil)) pa_nil)) pe_int))) (pps_cons pe_str pe_int (pps_cons pe_str pe_int pps_nil)))) (by rfl) (by rfl) (fun z => by cases z) (by decide))))), ?_⟩
    refine ⟨_, rfl, a, rfl, ⟨_, hS⟩, fun D nD => lc_list (K := K) (a := a) (xs := ns.map V.int) (fun i H' => ∃ ws : List Int, ws.length ≤ i ∧ H' D = some (.lst (ws.map V.int)) ∧ Same H H') ⟨[], Nat.le_refl _, upd_same, Same.new nD⟩ (fun i H' _ ⟨_, _, _, s1⟩ => s1.seq hS) ?_ ?_⟩
    · rintro i x H1 hi ⟨ws, hw, hD, s1⟩
      obtain ⟨z, rfl⟩ : ∃ z, x = V.int z := by
        obtain ⟨z, _, e⟩ := List.mem_map.mp (List.mem_of_getElem? hi)
        exact ⟨z, e.symm⟩
      have hil : i < 63 := by
        have := (List.getElem?_eq_some_iff.mp hi).1
        rw [List.length_map] at this
        omega
      refine ⟨rfl, _, rfl, _, rfl, _, _, rfl, rfl, ⟨by decide, by decide, by decide⟩, _, _, rfl, rfl, _, rfl, ?_⟩
      refine ite2 (fun _ => ?_) (fun _ => ?_)
      · refine ⟨_, rfl, _, rfl, _, _, rfl, rfl, ⟨by decide, by decide, by decide⟩, _, _, rfl, rfl, _, hD, ?_, ws ++ [(if z < 0 then -z else z) - 10 ^ Int.toNat 18], ?_, ?_, ?_⟩
        · rw [List.length_map]
          exact small1000 (by omega)
        · rw [List.length_append]
          show ws.length + 1 ≤ i + 1
          omega
        · rw [upd_same, List.map_append]
          rfl
        · exact fun b o e => by
            rw [upd_ne (ne_of_none e nD)]
            exact s1 b o e
      · exact ⟨ws, by omega, hD, s1⟩
    · rintro H1 ⟨ws, hw, hD, s1⟩
      rw [List.length_map] at hw
      intro d nd
      have s2 : Same H (upd H1 d (.dK [])) := s1.trans (Same.new nd)
      have nDd : D ≠ d := ne_of_none hD nd
      refine ⟨_, rfl, _, rfl, a, rfl, ⟨_, s2.seq hS⟩, fun C nC => ?_⟩
      have nCd : d ≠ C := ne_of_none upd_same nC
      have nCD : D ≠ C := ne_of_none (by rw [upd_ne nDd]; exact hD) nC
      refine lc_list (K := K) (a := a) (xs := ns.map V.int) (fun i H' => ∃ cs : List Int, cs.length = i ∧ (∀ x ∈ cs, 0 ≤ x ∧ x < 2147483629) ∧ H' C = some (.lst (cs.map V.int)) ∧ H' D = some (.lst (ws.map V.int)) ∧ H' d = some (.dK []) ∧ Same H H')
        ⟨[], rfl, fun _ h => (nomatch h), upd_same, by rw [upd_ne nCD, upd_ne nDd]; exact hD, by rw [upd_ne nCd, upd_same], s2.trans (Same.new nC)⟩ (fun i H' _ ⟨_, _, _, _, _, _, s3⟩ => s3.seq hS) ?_ ?_
      · rintro i x H3 hi ⟨cs, hc, hb, hC, hD3, hd3, s3⟩
        obtain ⟨z, rfl⟩ : ∃ z, x = V.int z := by
          obtain ⟨z, _, e⟩ := List.mem_map.mp (List.mem_of_getElem? hi)
          exact ⟨z, e.symm⟩
        have hil : i < 63 := by
          have := (List.getElem?_eq_some_iff.mp hi).1
          rw [List.length_map] at this
          omega
        have nCH : H C = none := Same.free s2 nC
        refine ⟨rfl, ?_⟩
        delta tYes
        refine ifT ?_
        refine ⟨_, rfl, _, rfl, .inl ⟨_, rfl, _, _, rfl, rfl, (by show (2147483629 : Int) ≠ 0; decide), _, hC, ?_, cs ++ [((if z < 0 then -z else z) : Int).fmod 2147483629], ?_, ?_, ?_, ?_, ?_, ?_⟩⟩
        · rw [List.length_map]
          exact small1000 (by omega)
        · rw [List.length_append, hc]
          rfl
        · intro x hx
          rcases List.mem_append.mp hx with hx | hx
          · exact hb x hx
          · obtain rfl := List.mem_singleton.mp hx
            rw [Int.fmod_eq_emod_of_nonneg _ (by decide)]
            exact ⟨Int.emod_nonneg _ (by decide), Int.emod_lt_of_pos _ (by decide)⟩
        · rw [upd_same, List.map_append]
          rfl
        · rw [upd_ne nCD]
          exact hD3
        · rw [upd_ne nCd]
          exact hd3
        · exact fun b o e => by
            rw [upd_ne (ne_of_none e nCH)]
            exact s3 b o e
      · rintro H3 ⟨cs, hc, hb, hC, hD3, hd3, s3⟩
        rw [List.length_map] at hc
        refine ⟨hd3, dk D C 0 0, rfl, (by show 4 ≤ 15; decide), ?_⟩
        have nDH : H D = none := nD
        refine k _ d D C (fun b o e => ?_) (Same.free s1 nd) nDH (Same.free s2 nC) ⟨nCD, ws, cs, 0, 0, by rw [upd_same, dk_merge], ?_, ?_, by omega, by omega, hb, by decide, by decide⟩
        · rw [upd_ne (ne_of_none e (Same.free s1 nd))]
          exact s3 b o e
        · rw [upd_ne nDd]
          exact hD3
        · rw [upd_ne nCd.symm]
          exact hC
abbrev Nmixed : List Str := ["_law_draw", "_law_turn", "_law_found", "_law_prime", "_law_blend", "_law_grain"]
theorem scmixed : FnScope Nmixed ["_law_draw"] (defScope smixed) := ⟨rfl, rfl, rfl, by decide +kernel, rfl, by decide +kernel, by decide +kernel⟩
def spMixed : Sp := fun vs H Q _ => ∃ (p : DrA) (s : DrS), vs = [.ref p.d] ∧ DrAt H p s ∧ DrOk s = true ∧ ∀ H', Keep p.d p.aw H H' → DrAt H' p { s with turn := s.turn + 1 } → Q (.int (mixF s.cells (s.turn + 1))) H'
theorem c_mixed (T : Tx sx K mg) : Cal P w K mg base "_law_mixed" 1 ["_law_draw"] spMixed := by
  refine T.cal 19 rfl (by decide +kernel) scmixed (fun vs H Q E h => ?_) (fun _ _ _ _ _ _ us hl => match us, hl with | [_], _ => rfl) (fun cdv A outer s H vs Q E hr h => ?_)
  · obtain ⟨p, s, rfl, _⟩ := h
    rfl
  · obtain ⟨⟨d, aw, ac⟩, ⟨wide, cells, rest, turn⟩, rfl, ⟨hne, h1, h2, h3⟩, hok, k⟩ := h
    obtain ⟨h6, h7, h8⟩ := DrOk_of hok
    have h7 : 0 ≤ turn := h7
    have h8 : turn < 1000000000000 := h8
    have hu := hu_of hr
    refine ⟨_, (pss_cons (ps_par (i := 1) (j := 2) (by rfl) scmixed.nd rfl rfl (by decide) rfl rfl (pa_cons (pe_op op_add (pe_dget hu (pv 0) pe_str (fun _ _ => rfl)) pe_int) (pa_cons pe_int pa_nil)) (by rfl))
    (pss_cons (ps_dput hu (pv 0) pe_str (pv 1) rfl)
    (pss_cons (ps_for PassesOwn.never rfl (pi_list (pe_lst (pa_cons pe_int (pa_cons pe_int (pa_cons pe_int (pa_cons pe_int pa_nil)))))) (pg_name (i := 3) scmixed.nd rfl (Or.inl rfl)) (pss_cons (ps_set (i := 4) scmixed.nd rfl (Or.inl rfl) (pe_op op_add (pe_op op_mul pe_int (pv 1)) (pe_op op_fdivN (pv 3) pe_int)))
    (pss_cons (ps_for PassesOwn.never rfl (pi_list (pe_dget hu (pv 0) pe_str (fun _ _ => rfl))) (pg_name (i := 5) scmixed.nd rfl (Or.inl rfl)) (pss_one (ps_set (i := 4) scmixed.nd rfl (Or.inl rfl) (pe_op op_modN (pe_callTy call_int1 (by rfl) (T.free "int") (by decide +kernel) (pa_cons (pe_op op_add (pe_op op_add (pe_op op_mul (pv 4) pe_int) (pv 5)) (pv 1)) pa_nil)) (pv 3)))))
    (pss_one (ps_set (i := 2) scmixed.nd rfl (Or.inl rfl) (pe_op op_add (pe_op op_mul (pv 2) pe_int) (pe_op op_modN (pe_callTy call_int1 (by rfl) (T.free "int") (by decide +kernel) (pa_cons (pe_op op_pow (pv 4) pe_int) pa_nil)) (pv 3))))))))
    (pss_one (ps_ret (pv 2)))))), ?_⟩
    have nda : aw ≠ d := ne_of h2 h1 (fun e => by cases e)
    have ndc : ac ≠ d := ne_of h3 h1 (fun e => by cases e)
    refine ⟨_, rfl, d, _, rfl, get_turn h1, _, _, rfl, rfl, _, _, rfl, ?_⟩
    refine ⟨_, rfl, _, rfl, d, _, rfl, set_turn h1 _, ?_⟩
    refine ⟨small1000 (by show 3 ≤ 1000; decide), fun p hp => ?_⟩
    have npd : d ≠ p := ne_of_none upd_same hp
    have npa : aw ≠ p := ne_of_none (by rw [upd_ne nda]; exact h2) hp
    have npc : ac ≠ p := ne_of_none (by rw [upd_ne ndc]; exact h3) hp
    refine ⟨p, rfl, ⟨_, .inl (.inl upd_same)⟩, ?_⟩
    have hd2 : (upd (upd H d (.dK (dk aw ac rest (turn + 1)))) p (.lst [V.int 2147483647, V.int 2147483629, V.int 2147483587, V.int 2147483579])) d = some (.dK (dk aw ac rest (turn + 1))) := by rw [upd_ne npd, upd_same]
    have ha2 : (upd (upd H d (.dK (dk aw ac rest (turn + 1)))) p (.lst [V.int 2147483647, V.int 2147483629, V.int 2147483587, V.int 2147483579])) aw = some (.lst (wide.map V.int)) := by rw [upd_ne npa, upd_ne nda]; exact h2
    have hc2 : (upd (upd H d (.dK (dk aw ac rest (turn + 1)))) p (.lst [V.int 2147483647, V.int 2147483629, V.int 2147483587, V.int 2147483579])) ac = some (.lst (cells.map V.int)) := by rw [upd_ne npc, upd_ne ndc]; exact h3
    have hk2 : Keep d aw H (upd (upd H d (.dK (dk aw ac rest (turn + 1)))) p (.lst [V.int 2147483647, V.int 2147483629, V.int 2147483587, V.int 2147483579])) := fun b o e n1 n2 => by
      rw [upd_ne (ne_of_none (by rw [upd_ne n1]; exact e) hp), upd_ne n1]
      exact e
    have hp2 : (upd (upd H d (.dK (dk aw ac rest (turn + 1)))) p (.lst [V.int 2147483647, V.int 2147483629, V.int 2147483587, V.int 2147483579])) p = some (.lst [V.int 2147483647, V.int 2147483629, V.int 2147483587, V.int 2147483579]) := upd_same
    generalize (upd (upd H d (.dK (dk aw ac rest (turn + 1)))) p (.lst [V.int 2147483647, V.int 2147483629, V.int 2147483587, V.int 2147483579])) = H2 at *
    refine for_list (K := K) (a := p) (xs := [V.int 2147483647, V.int 2147483629, V.int 2147483587, V.int 2147483579]) (fun i σ H' => H' = H2 ∧ ∃ (f : Int) (x y z : Option V), f = (mixP.take i).foldl (mixS cells (turn + 1)) 0 ∧ σ = [some (.ref d), some (.int (turn + 1)), some (.int f), x, y, z]) ⟨rfl, 0, none, none, none, rfl, rfl⟩ (fun i σ H' _ h => by rw [h.1]; exact .inl (.inl hp2)) ?_ ?_
    · rintro i pv' σ H' hi ⟨rfl, f, x, y, z, hf, rfl⟩
      obtain ⟨q0, hq0, eq0⟩ := map_get (f := V.int) (l := mixP) hi
      obtain ⟨q, rfl, hq1, hq2⟩ : ∃ q : Int, pv' = V.int q ∧ 0 < q ∧ q < 2147483648 := by
        rcases i with _ | _ | _ | _ | i
        · exact ⟨_, (Option.some.inj hi).symm, by decide, by decide⟩
        · exact ⟨_, (Option.some.inj hi).symm, by decide, by decide⟩
        · exact ⟨_, (Option.some.inj hi).symm, by decide, by decide⟩
        · exact ⟨_, (Option.some.inj hi).symm, by decide, by decide⟩
        · exact absurd hi (by simp)
      refine ⟨_, rfl, _, _, rfl, rfl, .inl ⟨by decide, by decide⟩, _, rfl, _, _, rfl, rfl, ⟨by decide, by decide⟩, _, _, rfl, rfl, ?_⟩
      refine ⟨_, rfl, d, _, rfl, get_cells hd2, ac, rfl, ⟨_, .inl (.inl hc2)⟩, ?_⟩
      refine for_list (K := K) (a := ac) (xs := cells.map V.int) (fun i σ H2' => H2' = H' ∧ ∃ (b : Int) (z : Option V), (0 ≤ b ∧ b < 100000000000000000) ∧ b = (cells.take i).foldl (mixT (turn + 1) q) (48271 * (turn + 1) + Int.fdiv q 37) ∧ σ = [some (.ref d), some (.int (turn + 1)), some (.int f), some (.int q), some (.int b), z]) ⟨rfl, 48271 * (turn + 1) + Int.fdiv q 37, z, ?_, rfl, rfl⟩ (fun i σ H' _ h => by rw [h.1]; exact .inl (.inl hc2)) ?_ ?_
      · rw [Int.fdiv_eq_ediv_of_nonneg _ (by decide)]
        omega
      · rintro i c σ H3 hi ⟨rfl, b, z, hb, hbe, rfl⟩
        obtain ⟨c, hc, rfl⟩ := map_get hi
        refine ⟨_, rfl, _, _, rfl, rfl, .inr ⟨by decide, by decide⟩, _, rfl, _, _, rfl, rfl, _, rfl, _, _, rfl, rfl, .inl ⟨_, rfl, _, rfl, _, _, rfl, rfl, (by show q ≠ 0; omega), ?_⟩⟩
        refine ⟨rfl, _, _, ?_, by rw [take_snoc hc, List.foldl_append, ← hbe]; rfl, rfl⟩
        show 0 ≤ Int.fmod (b * 69621 + c + (turn + 1)) q ∧ Int.fmod (b * 69621 + c + (turn + 1)) q < _
        rw [Int.fmod_eq_emod_of_nonneg _ (by omega)]
        have := Int.emod_nonneg (b * 69621 + c + (turn + 1)) (b := q) (by omega)
        have := Int.emod_lt_of_pos (b * 69621 + c + (turn + 1)) hq1
        omega
      · rintro σ H3 ⟨rfl, b, z, hb, hbe, rfl⟩
        rw [List.length_map, List.take_length] at hbe
        refine ⟨_, rfl, _, _, rfl, rfl, .inr ⟨by decide, by decide⟩, _, rfl, _, _, rfl, rfl, ⟨by decide, by decide, ?_⟩, .inl ⟨_, rfl, _, rfl, _, _, rfl, rfl, (by show q ≠ 0; omega), _, _, rfl, rfl, ?_⟩⟩
        · show b.natAbs < 2 ^ 64
          omega
        · refine ⟨rfl, _, _, _, _, ?_, rfl⟩
          cases eq0
          rw [take_snoc hq0, List.foldl_append, ← hf, hbe]
          rfl
    · rintro σ H' ⟨rfl, f, x, y, z, hf, rfl⟩
      have ef : f = mixF cells (turn + 1) := hf
      subst ef
      exact ⟨_, rfl, k _ hk2 ⟨hne, hd2, ha2, hc2⟩⟩
abbrev Ntake : List Str := ["_law_draw", "_law_many", "_law_found"]
theorem sctake : FnScope Ntake ["_law_draw", "_law_many"] (defScope stake) := ⟨rfl, rfl, rfl, by decide +kernel, rfl, by decide +kernel, by decide +kernel⟩
theorem c_take (T : Tx sx K mg) : Cal P w K mg base "_law_take" 2 ["_law_draw", "_law_many"] (spW K takeM) := by
  refine T.cal 20 rfl (by decide +kernel) sctake (fun vs H Q E h => spW_len (fun p s ds r hr => by obtain ⟨m, rfl, _⟩ := takeM_some (d := r.1) (s' := r.2) hr; rfl) h) (fun _ _ _ _ _ _ us hl => match us, hl with | [_, _], _ => rfl) (fun cdv A outer s H vs Q E hr h => ?_)
  · obtain ⟨ow, ⟨d, aw, ac⟩, ⟨wide, cells, rest, turn⟩, s', ws, ds, r, rfl, tr, ⟨hne, h1, h2, h3⟩, _, hq, hm0, k⟩ := h
    obtain ⟨m, rfl, hm, hok, rfl, rfl⟩ := takeM_some hm0
    cases hq with
    | cons q1 q2 =>
    cases q2
    cases q1
    have hu := hu_of hr
    refine ⟨_, (pss_cons (ps_if (pt_cmpR op_eq (pe_dget hu (pv 0) pe_str (fun _ _ => rfl)) pe_int (nomark _)) (pss_one (ps_dput hu (pv 0) pe_str (pe_ifExp (pt_cmpR (op_neD hr.units) (pe_dget hu (pv 0) pe_str (fun _ _ => rfl)) (pe_lst pa_nil) (nomark _)) (pe_bm PySem.F.plainAttrs_list PySem.F.slot_list_pop PySem.F.type_list_pop mt_popAt (pe_dget hu (pv 0) pe_str (fun _ _ => rfl)) (pa_cons pe_int pa_nil)) (pe_cal (c_mixed T) hr (pa_cons (pv 0) pa_nil))) rfl)) pss_nil)
    (pss_cons (ps_set (i := 2) sctake.nd rfl (Or.inl rfl) (pe_op op_modN (pe_callTy call_int1 (by rfl) (T.free "int") (by decide +kernel) (pa_cons (pe_dget hu (pv 0) pe_str (fun _ _ => rfl)) pa_nil)) (pv 1)))
    (pss_cons (ps_dput hu (pv 0) pe_str (pe_op op_fdivN (pe_dget hu (pv 0) pe_str (fun _ _ => rfl)) (pv 1)) rfl)
    (pss_one (ps_ret (pv 2)))))), ?_⟩
    have nda : aw ≠ d := ne_of h2 h1 (fun e => by cases e)
    have ndc : ac ≠ d := ne_of h3 h1 (fun e => by cases e)
    have tail : ∀ H', DrAt H' ⟨d, aw, ac⟩ (fillS ⟨wide, cells, rest, turn⟩) → Keep d aw H H' →
        (tSeq (tAsg (tOp (rI (fun _ j => j ≠ 0) fun i j => V.int (i.fmod j)) (tCB (fun xs H Q => (∃ i, xs = [V.int i] ∧ Q (V.int i) H) ∨ ∃ k, xs = [V.bl k] ∧ Q (V.int (if k = true then 1 else 0)) H) (tCons (tDGet (tVar 0) (tC (V.str "rest"))) tNil)) (tVar 1)) (gName 2))
          (tSeq (sDPut (tVar 0) (tC (V.str "rest")) (tOp (rI CDivN fun i j => V.int (i.fdiv j)) (tDGet (tVar 0) (tC (V.str "rest"))) (tVar 1))) (tRet (tVar 2)))) { nx := fun _ H' => Q .non H', rt := Q } (L2.start Ntake [V.ref d, V.int m]) H' := by
      intro H' DD KK
      obtain ⟨_, e1, e2, e3⟩ := DD
      refine ⟨_, rfl, d, _, rfl, get_rest e1, .inl ⟨_, rfl, _, rfl, _, _, rfl, rfl, (by show m ≠ 0; omega), ?_⟩⟩
      refine ⟨_, rfl, d, _, rfl, get_rest e1, _, rfl, _, _, rfl, rfl, ⟨by show m ≠ 0; omega, by show m.natAbs < 1073741824; omega⟩, ?_⟩
      refine ⟨_, rfl, d, _, rfl, set_rest e1 _, _, rfl, ?_⟩
      refine k _ _ ?_ ?_ (.int _)
      · exact fun b o e n1 n2 _ => by
          rw [upd_ne n1]
          exact KK b o e n1 n2
      · exact ⟨hne, upd_same, by rw [upd_ne nda]; exact e2, by rw [upd_ne ndc]; exact e3⟩
    refine ⟨_, rfl, d, _, rfl, get_rest h1, rfl, _, rfl, ?_⟩
    refine ite2 (fun hr0 => ?_) (fun hr0 => ?_)
    · have er : rest = 0 := by
        have := of_decide_eq_true hr0
        exact V.int.inj this
      subst er
      refine ⟨_, rfl, d, _, rfl, get_wide h1, Nat.zero_le _, fun p hp => ?_⟩
      have npd : d ≠ p := ne_of_none h1 hp
      have npa : aw ≠ p := ne_of_none h2 hp
      have npc : ac ≠ p := ne_of_none h3 hp
      have K1 : Keep d aw H (upd H p (.lst [])) := Same.keep (Same.new hp)
      have hp1 : upd H p (.lst []) p = some (.lst []) := upd_same
      have h1' : upd H p (.lst []) d = some (.dK (dk aw ac 0 turn)) := by rw [upd_ne npd]; exact h1
      have h2' : upd H p (.lst []) aw = some (.lst (wide.map V.int)) := by rw [upd_ne npa]; exact h2
      have h3' : upd H p (.lst []) ac = some (.lst (cells.map V.int)) := by rw [upd_ne npc]; exact h3
      generalize upd H p (.lst []) = H1 at *
      refine ⟨_, _, .lst (.inl (.inl h2')) (ints_dp wide), .lst (.inl (.inl hp1)) .nil, ints_shaped wide, by decide +kernel, _, rfl, ?_⟩
      refine ite2 (fun hw => ?_) (fun hw => ?_)
      · rw [ints_eqv_nil] at hw
        obtain ⟨x, xs, rfl⟩ : ∃ x xs, wide = x :: xs := by
          cases wide with
          | nil => cases hw
          | cons x xs => exact ⟨x, xs, rfl⟩
        refine ⟨_, rfl, d, _, rfl, get_wide h1', (Or.inl ⟨rfl, _, .inl (.inl h2')⟩), aw, _, 0, 0, _, rfl, rfl, h2', by decide, by decide, ?_, rfl, ?_⟩
        · show (if (0 : Int) ≤ 0 && (0 : Int) < ((List.map V.int (x :: xs)).length : Nat) then some (0 : Int).toNat else none) = some 0
          rw [if_pos (by rw [List.length_map]; show (true && decide _) = true; rw [Bool.true_and]; exact decide_eq_true (by show (0 : Int) < ((xs.length + 1 : Nat) : Int); omega))]
          rfl
        · have e1 : upd H1 aw (.lst (xs.map V.int)) d = some (.dK (dk aw ac 0 turn)) := by rw [upd_ne nda.symm]; exact h1'
          refine ⟨_, rfl, d, _, rfl, set_rest e1 x, ?_⟩
          have K2 : Keep d aw H (upd (upd H1 aw (.lst (xs.map V.int))) d (.dK (dk aw ac x turn))) := fun b o e n1 n2 => by
            rw [upd_ne n1, upd_ne n2]
            exact K1 b o e n1 n2
          exact tail _ ⟨hne, upd_same, by rw [upd_ne nda]; exact upd_same, by rw [upd_ne ndc, upd_ne hne.symm]; exact h3'⟩ K2
      · rw [ints_eqv_nil] at hw
        have ew : wide = [] := by
          cases wide with
          | nil => rfl
          | cons x xs => exact absurd rfl hw
        subst ew
        refine ⟨_, rfl, ⟨d, aw, ac⟩, ⟨[], cells, 0, turn⟩, rfl, ⟨hne, h1', h2', h3'⟩, hok, fun H2 KK DD => ?_⟩
        obtain ⟨_, e1, e2, e3⟩ := DD
        refine ⟨_, rfl, d, _, rfl, set_rest e1 _, ?_⟩
        have K2 : Keep d aw H (upd H2 d (.dK (dk aw ac (mixF cells (turn + 1)) (turn + 1)))) := fun b o e n1 n2 => by
          rw [upd_ne n1]
          exact (K1.trans KK) b o e n1 n2
        exact tail _ ⟨hne, upd_same, by rw [upd_ne nda]; exact e2, by rw [upd_ne ndc]; exact e3⟩ K2
    · have er : rest ≠ 0 := fun e => hr0 (by rw [e]; rfl)
      have ef : fillS ⟨wide, cells, rest, turn⟩ = ⟨wide, cells, rest, turn⟩ := if_neg er
      exact tail _ (by rw [ef]; exact ⟨hne, h1, h2, h3⟩) (Keep.refl d aw H)
end
abbrev m_take : DrA → DrS → List PyData → Option (PyData × DrS) := takeM
end K19

set_option maxHeartbeats 400000
namespace K19
open PySem PySem.Spec PyProof.Rows L2 He Sa NdefX RZ
section
variable {P : Program} {w : World} {K : PySem.W.Frag} {mg : Str → Option Value} {base : Heap}
/-! _law_pick -/
abbrev N_pick : List Str := ["_law_draw", "_law_some"]
theorem sc_pick : FnScope N_pick ["_law_draw", "_law_some"] (defScope spick) := ⟨rfl, rfl, rfl, by decide +kernel, rfl, by decide +kernel, by decide +kernel⟩
def g_pick : SM := (retS (ixV 1 (callW m_take 0 (consA (lenVE 1) nilA))))
def m_pick : DrA → DrS → List PyData → Option (PyData × DrS) := fnW g_pick 2 2
theorem c_pick (T : Tx sx K mg) : Cal P w K mg base "_law_pick" 3 ["_law_draw", "_law_some"] (spW K m_pick) :=
  T.calW (N := N_pick) (g := g_pick) 21 rfl (by decide +kernel) sc_pick (fun _ _ _ _ _ _ us hl => match us, hl with | [_, _], _ => rfl) fun cdv A outer s H E hr => by
    exact (dss_one (ds_ret (de_ixV (pv 1) (de_callW (c_take T) hr (pv 0) (da_cons (de_lenV (pv 1) (T.free "len")) da_nil)) (fun _ _ => rfl))))
end
end K19

set_option maxHeartbeats 400000
namespace K19
open PySem PySem.Spec PyProof.Rows L2 He Sa NdefX RZ
section
variable {P : Program} {w : World} {K : PySem.W.Frag} {mg : Str → Option Value} {base : Heap}
/-! _law_shuffled -/
abbrev N_shuffled : List Str := ["_law_draw", "_law_some", "_law_left", "_law_found"]
theorem sc_shuffled : FnScope N_shuffled ["_law_draw", "_law_some"] (defScope sshuffled) := ⟨rfl, rfl, rfl, by decide +kernel, rfl, by decide +kernel, by decide +kernel⟩
noncomputable def g_shuffled : SM := (seqS (parS [2, 3] [.l (listQ (lookV 1)), .l (lstE nilA)])
  (seqS (whlS (asB (m2V neD 2 (frzE (lstE nilA)))) (exprS (mutV 3 appM (consA (mutV 2 popM (consA (callW m_take 0 (consA (lenVE 2) nilA)) nilA)) nilA))))
  (retS (getV 3))))
noncomputable def m_shuffled : DrA → DrS → List PyData → Option (PyData × DrS) := fnW g_shuffled 4 2
theorem c_shuffled (T : Tx sx K mg) : Cal P w K mg base "_law_shuffled" 3 ["_law_draw", "_law_some"] (spW K m_shuffled) :=
  T.calW (N := N_shuffled) (g := g_shuffled) 22 rfl (by decide +kernel) sc_shuffled (fun _ _ _ _ _ _ us hl => match us, hl with | [_, _], _ => rfl) fun cdv A outer s H E hr => by
    exact (dss_cons (ds_par (i := 2) (j := 3) rfl sc_shuffled.nd rfl rfl (by decide) rfl rfl (dr_l (df_list (dq_var (pv 1)) (T.free "list")) (dr_l (df_lst da_nil) dr_nil)) (by rfl))
    (dss_cons (ds_while (passes_of rfl) (dt_cmpV (op_neD hr.units) neD_s isBo_ne (pv 2) (de_frz (df_lst da_nil)) (nomark _)) (dss_one (ds_expr (de_mut PySem.F.slot_list_append PySem.F.type_list_append mt_append appM_ok (pv 3) (da_cons (de_mut PySem.F.slot_list_pop PySem.F.type_list_pop mt_popAt popM_ok (pv 2) (da_cons (de_callW (c_take T) hr (pv 0) (da_cons (de_lenV (pv 2) (T.free "len")) da_nil)) da_nil)) da_nil)))))
    (dss_one (ds_ret (de_var (pv 3))))))
end
end K19

set_option maxHeartbeats 400000
namespace K19
open PySem PySem.Spec PyProof.Rows L2 He Sa NdefX RZ
section
variable {P : Program} {w : World} {K : PySem.W.Frag} {mg : Str → Option Value} {base : Heap}
/-! _law_names -/
abbrev N_names : List Str := ["_law_draw", "_law_many", "_law_letters", "_law_k"]
theorem sc_names : FnScope N_names ["_law_draw", "_law_many"] (defScope snames) := ⟨rfl, rfl, rfl, by decide +kernel, rfl, by decide +kernel, by decide +kernel⟩
noncomputable def g_names : SM := (seqS (asgS (.nm 2) (ret (.str "abcdefghijklmnopqrstuvwxyz")))
  (retS (callW m_shuffled 0 (consA (frzE (lcE [3] (.nm 3) (rng1 (consA (getV 1) nilA)) yesT (m2 addD (ixV 2 (getV 3)) (callW m_pick 0 (consA (frzE (lstE (consA (ret (.str "")) (consA (ret (.str "")) (consA (ret (.str "q")) (consA (ret (.str "zz")) nilA)))))) nilA))))) nilA))))
noncomputable def m_names : DrA → DrS → List PyData → Option (PyData × DrS) := fnW g_names 4 2
theorem c_names (T : Tx sx K mg) : Cal P w K mg base "_law_names" 4 ["_law_draw", "_law_many"] (spW K m_names) :=
  T.calW (N := N_names) (g := g_names) 23 rfl (by decide +kernel) sc_names (fun _ _ _ _ _ _ us hl => match us, hl with | [_, _], _ => rfl) fun cdv A outer s H E hr => by
    exact (dss_cons (ds_set (i := 2) sc_names.nd rfl (Or.inr rfl) de_str)
    (dss_one (ds_ret (de_callW (c_shuffled T) hr (pv 0) (da_cons (de_frz (df_lc (W' := E0) (own := [("_law_k", 3)]) rfl sc_names.nd (di_range1 (T.free "range") (da_cons (de_var (pv 1)) da_nil)) (blkOk_by (N := N_names) (sc := defScope snames) (by decide +kernel)) (fun _ _ _ _ _ => (dg_name (pg_name (i := 3) sc_names.nd rfl (Or.inl rfl)))) (fun _ _ _ _ _ => dts_nil) (fun _ _ _ _ _ => (de_op op_addA addD_ok (de_ixV (pv 2) (de_var (pv 3)) (fun _ _ => rfl)) (de_callW (c_pick T) hr (pv 0) (da_cons (de_frz (df_lst (da_cons de_str (da_cons de_str (da_cons de_str (da_cons de_str da_nil)))))) da_nil)))))) da_nil)))))
end
end K19

set_option maxHeartbeats 400000
namespace K19
open PySem PySem.Spec PyProof.Rows L2 He Sa NdefX RZ
section
variable {P : Program} {w : World} {K : PySem.W.Frag} {mg : Str → Option Value} {base : Heap}
/-! _law_house -/
abbrev N_house : List Str := ["_law_draw", "_law_names_here", "_law_pool", "_law_calls_here", "_law_name", "_law_replies"]
theorem sc_house : FnScope N_house ["_law_draw"] (defScope shouse) := ⟨rfl, rfl, rfl, by decide +kernel, rfl, by decide +kernel, by decide +kernel⟩
noncomputable def g_house : SM := (seqS (asgS (.nm 1) (callW m_names 0 (consA (ret (.int 9)) nilA)))
  (seqS (parS [2, 3] [.e (slE (getV 1) noneO (someO (ret (.int 5)))), .l (lstE nilA)])
  (seqS (loopS (.nm 4) (itF (.nm 4) (slE (getV 1) (someO (ret (.int 5))) (someO (m2 addD (ret (.int 5)) (callW m_pick 0 (consA (frzE (lstE (consA (ret (.int 2)) (consA (ret (.int 2)) (consA (ret (.int 2)) (consA (ret (.int 2)) (consA (ret (.int 3)) (consA (ret (.int 1)) nilA)))))))) nilA)))))) (seqS (asgS (.nm 5) (slE (callW m_shuffled 0 (consA (getV 2) nilA)) noneO (someO (callW m_pick 0 (consA (frzE (lstE (consA (ret (.int 2)) (consA (ret (.int 2)) (consA (ret (.int 2)) (consA (ret (.int 3)) (consA (ret (.int 1)) nilA))))))) nilA)))))
  (exprS (mutV 3 appM (consA (tupE (consA (ret (.str "call")) (consA (getV 4) (consA (calQ tupQ (lookV 5)) nilA)))) nilA)))))
  (retS (tupE (consA (ret (.str "house")) (consA (calQ tupQ (lookV 3)) nilA)))))))
noncomputable def m_house : DrA → DrS → List PyData → Option (PyData × DrS) := fnW g_house 6 1
theorem c_house (T : Tx sx K mg) : Cal P w K mg base "_law_house" 5 ["_law_draw"] (spW K m_house) :=
  T.calW (N := N_house) (g := g_house) 24 rfl (by decide +kernel) sc_house (fun _ _ _ _ _ _ us hl => match us, hl with | [_], _ => rfl) fun cdv A outer s H E hr => by
    exact (dss_cons (ds_set (i := 1) sc_house.nd rfl (Or.inl rfl) (de_callW (c_names T) hr (pv 0) (da_cons de_int da_nil)))
    (dss_cons (ds_par (i := 2) (j := 3) rfl sc_house.nd rfl rfl (by decide) rfl rfl (dr_e (de_sl (de_var (pv 1)) dp_none (dp_some de_int)) (dr_l (df_lst da_nil) dr_nil)) (by rfl))
    (dss_cons (ds_for (own := [4]) (passes_of rfl) rfl (di_e (de_sl (de_var (pv 1)) (dp_some de_int) (dp_some (de_op op_addA addD_ok de_int (de_callW (c_pick T) hr (pv 0) (da_cons (de_frz (df_lst (da_cons de_int (da_cons de_int (da_cons de_int (da_cons de_int (da_cons de_int (da_cons de_int da_nil)))))))) da_nil)))))) (dg_name (pg_name (i := 4) sc_house.nd rfl (Or.inl rfl))) (dss_cons (ds_set (i := 5) sc_house.nd rfl (Or.inl rfl) (de_sl (de_callW (c_shuffled T) hr (pv 0) (da_cons (de_var (pv 2)) da_nil)) dp_none (dp_some (de_callW (c_pick T) hr (pv 0) (da_cons (de_frz (df_lst (da_cons de_int (da_cons de_int (da_cons de_int (da_cons de_int (da_cons de_int da_nil))))))) da_nil)))))
    (dss_one (ds_expr (de_mut PySem.F.slot_list_append PySem.F.type_list_append mt_append appM_ok (pv 3) (da_cons (de_tup (da_cons de_str (da_cons (de_var (pv 4)) (da_cons (de_qT call_tupleF tupQ_ok (dq_var (pv 5)) (T.free "tuple")) da_nil)))) da_nil))))))
    (dss_one (ds_ret (de_tup (da_cons de_str (da_cons (de_qT call_tupleF tupQ_ok (dq_var (pv 3)) (T.free "tuple")) da_nil))))))))
end
end K19

set_option maxHeartbeats 400000
namespace K19
open PySem PySem.Spec PyProof.Rows L2 He Sa NdefX RZ
section
variable {P : Program} {w : World} {K : PySem.W.Frag} {mg : Str → Option Value} {base : Heap}
/-! _law_calls -/
abbrev N_calls : List Str := ["_law_house_here", "_law_told"]
theorem sc_calls : FnScope N_calls ["_law_house_here"] (defScope scalls) := ⟨rfl, rfl, rfl, by decide +kernel, rfl, by decide +kernel, by decide +kernel⟩
def g_calls : SM := (retS (frzE (lcE [1] (.nm 1) (itF (.nm 1) (ixV 0 (ret (.int 1)))) yesT (ixV 1 (ret (.int 1))))))
def m_calls : List PyData → Option FR := fnD g_calls 2 1
theorem c_calls (T : Tx sx K mg) : Cal P w K mg base "_law_calls" 1 ["_law_house_here"] (spF K m_calls) :=
  T.calD (N := N_calls) (g := g_calls) 25 rfl (by decide +kernel) sc_calls (fun _ _ _ _ _ _ us hl => match us, hl with | [_], _ => rfl) fun cdv A outer s H E hr => by
    exact (dss_one (ds_ret (de_frz (df_lc (W' := E0) (own := [("_law_told", 1)]) rfl sc_calls.nd (di_e (de_ixV (pv 0) de_int (fun _ _ => rfl))) (blkOk_by (N := N_calls) (sc := defScope scalls) (by decide +kernel)) (fun _ _ _ _ _ => (dg_name (pg_name (i := 1) sc_calls.nd rfl (Or.inl rfl)))) (fun _ _ _ _ _ => dts_nil) (fun _ _ _ _ _ => (de_ixV (pv 1) de_int (fun _ _ => rfl)))))))
end
end K19

set_option maxHeartbeats 400000
namespace K19
open PySem PySem.Spec PyProof.Rows L2 He Sa NdefX RZ
section
variable {P : Program} {w : World} {K : PySem.W.Frag} {mg : Str → Option Value} {base : Heap}
/-! _law_word -/
abbrev N_word : List Str := ["_law_draw", "_law_house_here", "_law_most", "_law_k"]
theorem sc_word : FnScope N_word ["_law_draw", "_law_house_here", "_law_most"] (defScope sword) := ⟨rfl, rfl, rfl, by decide +kernel, rfl, by decide +kernel, by decide +kernel⟩
def g_word : SM := (retS (calQ tupQ (sqF (lcE [3] (.nm 3) (rng1 (consA (callW m_take 0 (consA (m2 addD (getV 2) (ret (.int 1))) nilA)) nilA)) yesT (callW m_pick 0 (consA (callE m_calls (consA (getV 1) nilA)) nilA))))))
def m_word : DrA → DrS → List PyData → Option (PyData × DrS) := fnW g_word 4 3
theorem c_word (T : Tx sx K mg) : Cal P w K mg base "_law_word" 4 ["_law_draw", "_law_house_here", "_law_most"] (spW K m_word) :=
  T.calW (N := N_word) (g := g_word) 26 rfl (by decide +kernel) sc_word (fun _ _ _ _ _ _ us hl => match us, hl with | [_, _, _], _ => rfl) fun cdv A outer s H E hr => by
    exact (dss_one (ds_ret (de_qT call_tupleF tupQ_ok (dq_f (df_lc (W' := E0) (own := [("_law_k", 3)]) rfl sc_word.nd (di_range1 (T.free "range") (da_cons (de_callW (c_take T) hr (pv 0) (da_cons (de_op op_addA addD_ok (de_var (pv 2)) de_int) da_nil)) da_nil)) (blkOk_by (N := N_word) (sc := defScope sword) (by decide +kernel)) (fun _ _ _ _ _ => (dg_name (pg_name (i := 3) sc_word.nd rfl (Or.inl rfl)))) (fun _ _ _ _ _ => dts_nil) (fun _ _ _ _ _ => (de_callW (c_pick T) hr (pv 0) (da_cons (de_call (c_calls T) hr (da_cons (de_var (pv 1)) da_nil)) da_nil))))) (T.free "tuple"))))
end
end K19

set_option maxHeartbeats 400000
namespace K19
open PySem PySem.Spec PyProof.Rows L2 He Sa NdefX RZ
section
variable {P : Program} {w : World} {K : PySem.W.Frag} {mg : Str → Option Value} {base : Heap}
/-! _law_program -/
abbrev N_program : List Str := ["_law_draw", "_law_house_here", "_law_most", "_law_many", "_law_rows", "_law_state_here", "_law_told"]
theorem sc_program : FnScope N_program ["_law_draw", "_law_house_here", "_law_most"] (defScope sprogram) := ⟨rfl, rfl, rfl, by decide +kernel, rfl, by decide +kernel, by decide +kernel⟩
def g_program : SM := (seqS (asgS (.nm 3) (m2 addD (ret (.int 1)) (callW m_take 0 (consA (getV 2) nilA))))
  (seqS (ownS 4 (lcE [5] (.nm 5) (rng1 (consA (getV 3) nilA)) yesT (calQ tupQ (sqF (lcE [6] (.nm 6) (itF (.nm 6) (ixV 1 (ret (.int 1)))) yesT (tupE (consA (callW m_pick 0 (consA (frzE (listQ (sqE (ixV 6 (ret (.int 2)))))) nilA)) (consA (callW m_take 0 (consA (getV 3) nilA)) nilA))))))))
  (retS (tupE (consA (ret (.str "program")) (consA (getV 1) (consA (calQ tupQ (lookV 4)) nilA)))))))
def m_program : DrA → DrS → List PyData → Option (PyData × DrS) := fnW g_program 7 3
theorem c_program (T : Tx sx K mg) : Cal P w K mg base "_law_program" 4 ["_law_draw", "_law_house_here", "_law_most"] (spW K m_program) :=
  T.calW (N := N_program) (g := g_program) 27 rfl (by decide +kernel) sc_program (fun _ _ _ _ _ _ us hl => match us, hl with | [_, _, _], _ => rfl) fun cdv A outer s H E hr => by
    exact (dss_cons (ds_set (i := 3) sc_program.nd rfl (Or.inr rfl) (de_op op_addA addD_ok de_int (de_callW (c_take T) hr (pv 0) (da_cons (de_var (pv 2)) da_nil))))
    (dss_cons (ds_lc (i := 4) (W' := E0) (own := [("_law_state_here", 5)]) rfl sc_program.nd rfl rfl (sw_true rfl rfl rfl (by decide +kernel)) (di_range1 (T.free "range") (da_cons (de_var (pv 3)) da_nil)) (blkOk_by (N := N_program) (sc := defScope sprogram) (by decide +kernel)) (fun _ _ _ _ _ => (dg_name (pg_name (i := 5) sc_program.nd rfl (Or.inl rfl)))) (fun _ _ _ _ _ => dts_nil) (fun _ _ _ _ _ => (de_qT call_tupleF tupQ_ok (dq_f (df_lc (W' := E0) (own := [("_law_told", 6)]) rfl sc_program.nd (di_e (de_ixV (pv 1) de_int (fun _ _ => rfl))) (blkOk_by (by rfl)) (fun _ _ _ _ _ => (dg_name (pg_name (i := 6) sc_program.nd rfl (Or.inl rfl)))) (fun _ _ _ _ _ => dts_nil) (fun _ _ _ _ _ => (de_tup (da_cons (de_callW (c_pick T) hr (pv 0) (da_cons (de_frz (df_list (dq_e (de_ixV (pv 6) de_int (fun _ _ => rfl))) (T.free "list"))) da_nil)) (da_cons (de_callW (c_take T) hr (pv 0) (da_cons (de_var (pv 3)) da_nil)) da_nil)))))) (T.free "tuple"))))
    (dss_one (ds_ret (de_tup (da_cons de_str (da_cons (de_var (pv 1)) (da_cons (de_qT call_tupleF tupQ_ok (dq_var (pv 4)) (T.free "tuple")) da_nil))))))))
end
end K19

set_option maxHeartbeats 400000
namespace K19
open PySem PySem.Spec PyProof.Rows L2 He Sa NdefX RZ
section
variable {P : Program} {w : World} {K : PySem.W.Frag} {mg : Str → Option Value} {base : Heap}
/-! _law_answered -/
abbrev N_answered : List Str := ["_law_program_here", "_law_word_here", "_law_state_here", "_law_found", "_law_calls_here", "_law_call", "_law_answer"]
theorem sc_answered : FnScope N_answered ["_law_program_here", "_law_word_here"] (defScope sanswered) := ⟨rfl, rfl, rfl, by decide +kernel, rfl, by decide +kernel, by decide +kernel⟩
def g_answered : SM := (seqS (parS [2, 3, 4] [.e (ret (.int 0)), .l (lstE nilA), .e (callE m_calls (consA (ixV 0 (ret (.int 1))) nilA))])
  (seqS (loopS (.nm 5) (itF (.nm 5) (getV 1)) (seqS (asgS (.tp [.nm 6, .nm 2]) (m2 ixD (m2 ixD (ixV 0 (ret (.int 2))) (getV 2)) (idxE (getV 4) (getV 5))))
  (exprS (mutV 3 appM (consA (tupE (consA (getV 5) (consA (getV 6) nilA))) nilA)))))
  (retS (calQ tupQ (lookV 3)))))
def m_answered : List PyData → Option FR := fnD g_answered 7 2
theorem c_answered (T : Tx sx K mg) : Cal P w K mg base "_law_answered" 2 ["_law_program_here", "_law_word_here"] (spF K m_answered) :=
  T.calD (N := N_answered) (g := g_answered) 28 rfl (by decide +kernel) sc_answered (fun _ _ _ _ _ _ us hl => match us, hl with | [_, _], _ => rfl) fun cdv A outer s H E hr => by
    exact (dss_cons (ds_par3 (i := 2) (j := 3) (l := 4) rfl sc_answered.nd rfl rfl rfl (by decide) (by decide) (by decide) rfl rfl rfl (dr_e de_int (dr_l (df_lst da_nil) (dr_e (de_call (c_calls T) hr (da_cons (de_ixV (pv 0) de_int (fun _ _ => rfl)) da_nil)) dr_nil))) (by rfl))
    (dss_cons (ds_for (own := [5]) (passes_of rfl) rfl (di_e (de_var (pv 1))) (dg_name (pg_name (i := 5) sc_answered.nd rfl (Or.inl rfl))) (dss_cons (ds_asg (own := [6, 2]) (de_ix (de_ix (de_ixV (pv 0) de_int (fun _ _ => rfl)) (de_var (pv 2)) (fun _ _ => rfl)) (de_index (u65 hr) (de_var (pv 4)) (de_var (pv 5))) (fun _ _ => rfl)) (dg_tup rfl (dgs_cons (dg_name (pg_name (i := 6) sc_answered.nd rfl (Or.inl rfl))) (dgs_cons (dg_name (pg_name (i := 2) sc_answered.nd rfl (Or.inl rfl))) dgs_nil))))
    (dss_one (ds_expr (de_mut PySem.F.slot_list_append PySem.F.type_list_append mt_append appM_ok (pv 3) (da_cons (de_tup (da_cons (de_var (pv 5)) (da_cons (de_var (pv 6)) da_nil))) da_nil))))))
    (dss_one (ds_ret (de_qT call_tupleF tupQ_ok (dq_var (pv 3)) (T.free "tuple"))))))
end
end K19

set_option maxHeartbeats 400000
namespace K19
open PySem PySem.Spec PyProof.Rows L2 He Sa NdefX RZ
section
variable {P : Program} {w : World} {K : PySem.W.Frag} {mg : Str → Option Value} {base : Heap}
/-! _law_places -/
abbrev N_places : List Str := ["_law_thing", "_law_line", "_law_at", "_law_path", "_law_part", "_law_k", "_law_inner"]
theorem sc_places : FnScope N_places ["_law_thing"] (defScope splaces) := ⟨rfl, rfl, rfl, by decide +kernel, rfl, by decide +kernel, by decide +kernel⟩
noncomputable def g_places : SM := (seqS (parS [1, 2] [.l (lstE (consA (tupE (consA (tupE nilA) (consA (getV 0) nilA))) nilA)), .e (ret (.int 0))])
  (seqS (whlS (asB (m2 ltD (getV 2) (lenVE 1))) (seqS (asgS (.tp [.nm 3, .nm 4]) (ixV 1 (getV 2)))
  (seqS (asgS (.nm 2) (m2 addD (getV 2) (ret (.int 1))))
  (ifS (asB (isiE "tuple" (getV 4))) (exprS (mutV 1 extM (consA (frzE (lcE [5, 6] (.tp [.nm 5, .nm 6]) (enumE (consA (getV 4) nilA)) yesT (tupE (consA (m2 addD (getV 3) (tupE (consA (getV 5) nilA))) (consA (getV 6) nilA))))) nilA))) nxS))))
  (retS (frzE (lcE [3, 4] (.tp [.nm 3, .nm 4]) (itF (.tp [.nm 3, .nm 4]) (getV 1)) yesT (getV 3))))))
noncomputable def m_places : List PyData → Option FR := fnD g_places 7 1
theorem c_places (T : Tx sx K mg) : Cal P w K mg base "_law_places" 1 ["_law_thing"] (spF K m_places) :=
  T.calD (N := N_places) (g := g_places) 29 rfl (by decide +kernel) sc_places (fun _ _ _ _ _ _ us hl => match us, hl with | [_], _ => rfl) fun cdv A outer s H E hr => by
    exact (dss_cons (ds_par (i := 1) (j := 2) rfl sc_places.nd rfl rfl (by decide) rfl rfl (dr_l (df_lst (da_cons (de_tup (da_cons (de_tup da_nil) (da_cons (de_var (pv 0)) da_nil))) da_nil)) (dr_e de_int dr_nil)) (by rfl))
    (dss_cons (ds_while (passes_of rfl) (dt_cmp op_ltA ordD_ok (de_var (pv 2)) (de_lenV (pv 1) (T.free "len")) (nomark _)) (dss_cons (ds_asg (own := [3, 4]) (de_ixV (pv 1) (de_var (pv 2)) (fun _ _ => rfl)) (dg_tup rfl (dgs_cons (dg_name (pg_name (i := 3) sc_places.nd rfl (Or.inr rfl))) (dgs_cons (dg_name (pg_name (i := 4) sc_places.nd rfl (Or.inl rfl))) dgs_nil))))
    (dss_cons (ds_set (i := 2) sc_places.nd rfl (Or.inl rfl) (de_op op_addA addD_ok (de_var (pv 2)) de_int))
    (dss_one (ds_if (dt_val (de_isi (tn := "tuple") (de_var (pv 4)) (T.free "isinstance") (T.free "tuple"))) (dss_one (ds_expr (de_mut PySem.F.slot_list_extend PySem.F.type_list_extend mt_extA extM_ok (pv 1) (da_cons (de_frz (df_lc (W' := E0) (own := [("_law_k", 5), ("_law_inner", 6)]) rfl sc_places.nd (di_enum (T.free "enumerate") (da_cons (de_var (pv 4)) da_nil)) (blkOk_by (N := N_places) (sc := defScope splaces) (by decide +kernel)) (fun _ _ _ _ _ => (dg_tup rfl (dgs_cons (dg_name (pg_name (i := 5) sc_places.nd rfl (Or.inl rfl))) (dgs_cons (dg_name (pg_name (i := 6) sc_places.nd rfl (Or.inl rfl))) dgs_nil)))) (fun _ _ _ _ _ => dts_nil) (fun _ _ _ _ _ => (de_tup (da_cons (de_op op_addA addD_ok (de_var (pv 3)) (de_tup (da_cons (de_var (pv 5)) da_nil))) (da_cons (de_var (pv 6)) da_nil)))))) da_nil)))) dss_nil)))))
    (dss_one (ds_ret (de_frz (df_lc (W' := E0) (own := [("_law_path", 3), ("_law_part", 4)]) rfl sc_places.nd (di_e (de_var (pv 1))) (blkOk_by (N := N_places) (sc := defScope splaces) (by decide +kernel)) (fun _ _ _ _ _ => (dg_tup rfl (dgs_cons (dg_name (pg_name (i := 3) sc_places.nd rfl (Or.inl rfl))) (dgs_cons (dg_name (pg_name (i := 4) sc_places.nd rfl (Or.inl rfl))) dgs_nil)))) (fun _ _ _ _ _ => dts_nil) (fun _ _ _ _ _ => (de_var (pv 3)))))))))
end
end K19

set_option maxHeartbeats 400000
namespace K19
open PySem PySem.Spec PyProof.Rows L2 He Sa NdefX RZ
section
variable {P : Program} {w : World} {K : PySem.W.Frag} {mg : Str → Option Value} {base : Heap}
/-! _law_part_at -/
abbrev N_part_at : List Str := ["_law_thing", "_law_path", "_law_k"]
theorem sc_part_at : FnScope N_part_at ["_law_thing", "_law_path"] (defScope spart_at) := ⟨rfl, rfl, rfl, by decide +kernel, rfl, by decide +kernel, by decide +kernel⟩
def g_part_at : SM := (seqS (loopS (.nm 2) (itF (.nm 2) (getV 1)) (asgS (.nm 0) (ixV 0 (getV 2))))
  (retS (getV 0)))
def m_part_at : List PyData → Option FR := fnD g_part_at 3 2
theorem c_part_at (T : Tx sx K mg) : Cal P w K mg base "_law_part_at" 1 ["_law_thing", "_law_path"] (spF K m_part_at) :=
  T.calD (N := N_part_at) (g := g_part_at) 30 rfl (by decide +kernel) sc_part_at (fun _ _ _ _ _ _ us hl => match us, hl with | [_, _], _ => rfl) fun cdv A outer s H E hr => by
    exact (dss_cons (ds_for (own := [2]) (passes_of rfl) rfl (di_e (de_var (pv 1))) (dg_name (pg_name (i := 2) sc_part_at.nd rfl (Or.inl rfl))) (dss_one (ds_set (i := 0) sc_part_at.nd rfl (Or.inl rfl) (de_ixV (pv 0) (de_var (pv 2)) (fun _ _ => rfl)))))
    (dss_one (ds_ret (de_var (pv 0)))))
end
end K19

set_option maxHeartbeats 400000
namespace K19
open PySem PySem.Spec PyProof.Rows L2 He Sa NdefX RZ
section
variable {P : Program} {w : World} {K : PySem.W.Frag} {mg : Str → Option Value} {base : Heap}
/-! _law_put_at -/
abbrev N_put_at : List Str := ["_law_thing", "_law_path", "_law_part"]
theorem sc_put_at : FnScope N_put_at ["_law_thing", "_law_path", "_law_part"] (defScope sput_at) := ⟨rfl, rfl, rfl, by decide +kernel, rfl, by decide +kernel, by decide +kernel⟩
def g_put_at (m : List PyData → Option FR) : SM := (seqS (ifS (asB (m2V eqD 1 (tupE nilA))) (retS (getV 2)) nxS)
  (retS (m2 addD (m2 addD (slE (getV 0) noneO (someO (ixV 1 (ret (.int 0))))) (tupE (consA (callE m (consA (ixV 0 (ixV 1 (ret (.int 0)))) (consA (slE (getV 1) (someO (ret (.int 1))) noneO) (consA (getV 2) nilA)))) nilA))) (slE (getV 0) (someO (m2 addD (ixV 1 (ret (.int 0))) (ret (.int 1)))) noneO))))
def m_put_at : Nat → List PyData → Option FR
  | 0 => fnD (fun _ => none) 3 3
  | n + 1 => fnD (g_put_at (m_put_at n)) 3 3
theorem c_put_at (T : Tx sx K mg) : ∀ n, Cal P w K mg base "_law_put_at" (n + 1) ["_law_thing", "_law_path", "_law_part"] (spF K (m_put_at n))
  | 0 => T.calD (N := N_put_at) (g := fun _ => none) 31 rfl (by decide +kernel) sc_put_at (fun _ _ _ _ _ _ us hl => match us, hl with | [_, _, _], _ => rfl) fun cdv A outer s H E hr => dss_dead
  | n + 1 => T.calD (N := N_put_at) (g := g_put_at (m_put_at n)) 31 rfl (by decide +kernel) sc_put_at (fun _ _ _ _ _ _ us hl => match us, hl with | [_, _, _], _ => rfl) fun cdv A outer s H E hr => by
    have ih := c_put_at T n
    exact (dss_cons (ds_if (dt_cmpV (op_eqA hr.units) eqD_s isBo_eq (pv 1) (de_tup da_nil) (nomark _)) (dss_one (ds_ret (de_var (pv 2)))) dss_nil)
    (dss_one (ds_ret (de_op op_addA addD_ok (de_op op_addA addD_ok (de_sl (de_var (pv 0)) dp_none (dp_some (de_ixV (pv 1) de_int (fun _ _ => rfl)))) (de_tup (da_cons (de_call (hk := Nat.le_refl _) (ih) hr (da_cons (de_ixV (pv 0) (de_ixV (pv 1) de_int (fun _ _ => rfl)) (fun _ _ => rfl)) (da_cons (de_sl (de_var (pv 1)) (dp_some de_int) dp_none) (da_cons (de_var (pv 2)) da_nil)))) da_nil))) (de_sl (de_var (pv 0)) (dp_some (de_op op_addA addD_ok (de_ixV (pv 1) de_int (fun _ _ => rfl)) de_int)) dp_none)))))
end
end K19

set_option maxHeartbeats 400000
namespace K19
open PySem PySem.Spec PyProof.Rows L2 He Sa NdefX RZ
section
variable {P : Program} {w : World} {K : PySem.W.Frag} {mg : Str → Option Value} {base : Heap}
/-! _law_odd -/
abbrev N_odd : List Str := ["_law_draw", "_law_part", "_law_names_here", "_law_at", "_law_some"]
theorem sc_odd : FnScope N_odd ["_law_draw", "_law_part", "_law_names_here"] (defScope sodd) := ⟨rfl, rfl, rfl, by decide +kernel, rfl, by decide +kernel, by decide +kernel⟩
def g_odd : SM := (seqS (ifS (andT (asB (isiE "tuple" (getV 1))) (asB (m2 gtD (callW m_take 0 (consA (ret (.int 3)) nilA)) (ret (.int 0))))) (seqS (asgS (.nm 3) (callW m_take 0 (consA (m2 addD (lenVE 1) (ret (.int 1))) nilA)))
  (seqS (ownS 4 (lstE (consA (m2 addD (slE (getV 1) noneO (someO (getV 3))) (slE (getV 1) (someO (m2 addD (getV 3) (ret (.int 1)))) noneO)) (consA (m2 addD (m2 addD (slE (getV 1) noneO (someO (getV 3))) (slE (getV 1) (someO (getV 3)) (someO (m2 addD (getV 3) (ret (.int 1)))))) (slE (getV 1) (someO (getV 3)) noneO)) (consA (revE (getV 1)) (consA (frzE (listQ (lookV 1))) (consA (m2 addD (getV 1) (tupE (consA (ret .none) nilA))) (consA (tupE nilA) nilA))))))))
  (retS (callW m_pick 0 (consA (getV 4) nilA))))) nxS)
  (seqS (ifS (andT (asB (isiE "str" (getV 1))) (asB (m2 gtD (callW m_take 0 (consA (ret (.int 3)) nilA)) (ret (.int 0))))) (retS (callW m_pick 0 (consA (m2 addD (getV 2) (frzE (lstE (consA (ret (.str "")) (consA (ret (.str "Abc")) (consA (ret (.str "a1")) (consA (ret (.str "call")) (consA (ret (.str "abcdefghi")) (consA (m2 addD (getV 1) (ret (.str "x"))) (consA (tupE (consA (getV 1) nilA)) nilA)))))))))) nilA))) nxS)
  (seqS (ifS (andT (asB (isiE "int" (getV 1))) (andT (notT (asB (isiE "bool" (getV 1)))) (asB (m2 gtD (callW m_take 0 (consA (ret (.int 3)) nilA)) (ret (.int 0)))))) (retS (callW m_pick 0 (consA (frzE (lstE (consA (m2 addD (getV 1) (ret (.int 1))) (consA (m2 subD (getV 1) (ret (.int 1))) (consA (m1 negD (ret (.int 1))) (consA (ret (.int 0)) (consA (ret (.int 1)) (consA (ret (.bool true)) (consA (ret (.bool false)) (consA (calE (c1 strD) (consA (getV 1) nilA)) nilA)))))))))) nilA))) nxS)
  (retS (callW m_pick 0 (consA (frzE (lstE (consA (ret .none) (consA (ret (.int 5)) (consA (ret (.bool true)) (consA (ret (.str "zzzzzzzz")) (consA (tupE nilA) (consA (frzE (lstE nilA)) (consA (ret (.dict [])) (consA (tupE (consA (ret (.str "call")) (consA (ret (.str "a")) (consA (tupE (consA (ret (.str "b")) nilA)) nilA)))) (consA (tupE (consA (ret .none) nilA)) (consA (m1 negD (ret (.int 1))) nilA)))))))))))) nilA))))))
def m_odd : DrA → DrS → List PyData → Option (PyData × DrS) := fnW g_odd 5 3
theorem c_odd (T : Tx sx K mg) : Cal P w K mg base "_law_odd" 4 ["_law_draw", "_law_part", "_law_names_here"] (spW K m_odd) :=
  T.calW (N := N_odd) (g := g_odd) 32 rfl (by decide +kernel) sc_odd (fun _ _ _ _ _ _ us hl => match us, hl with | [_, _, _], _ => rfl) fun cdv A outer s H E hr => by
    exact (dss_cons (ds_if (PW.pt (dt_and (dt_val (de_isi (tn := "tuple") (de_var (pv 1)) (T.free "isinstance") (T.free "tuple"))) (pw_and1 (dt_cmp op_gtA ordD_ok (de_callW (c_take T) hr (pv 0) (da_cons de_int da_nil)) de_int (nomark _))))) (dss_cons (ds_set (i := 3) sc_odd.nd rfl (Or.inl rfl) (de_callW (c_take T) hr (pv 0) (da_cons (de_op op_addA addD_ok (de_lenV (pv 1) (T.free "len")) de_int) da_nil)))
    (dss_cons (ds_own (i := 4) sc_odd.nd rfl (Or.inl rfl) (df_lst (da_cons (de_op op_addA addD_ok (de_sl (de_var (pv 1)) dp_none (dp_some (de_var (pv 3)))) (de_sl (de_var (pv 1)) (dp_some (de_op op_addA addD_ok (de_var (pv 3)) de_int)) dp_none)) (da_cons (de_op op_addA addD_ok (de_op op_addA addD_ok (de_sl (de_var (pv 1)) dp_none (dp_some (de_var (pv 3)))) (de_sl (de_var (pv 1)) (dp_some (de_var (pv 3))) (dp_some (de_op op_addA addD_ok (de_var (pv 3)) de_int)))) (de_sl (de_var (pv 1)) (dp_some (de_var (pv 3))) dp_none)) (da_cons (de_rev (de_var (pv 1))) (da_cons (de_frz (df_list (dq_var (pv 1)) (T.free "list"))) (da_cons (de_op op_addA addD_ok (de_var (pv 1)) (de_tup (da_cons de_non da_nil))) (da_cons (de_tup da_nil) da_nil))))))))
    (dss_one (ds_ret (de_callW (c_pick T) hr (pv 0) (da_cons (de_var (pv 4)) da_nil)))))) dss_nil)
    (dss_cons (ds_if (PW.pt (dt_and (dt_val (de_isi (tn := "str") (de_var (pv 1)) (T.free "isinstance") (T.free "str"))) (pw_and1 (dt_cmp op_gtA ordD_ok (de_callW (c_take T) hr (pv 0) (da_cons de_int da_nil)) de_int (nomark _))))) (dss_one (ds_ret (de_callW (c_pick T) hr (pv 0) (da_cons (de_op op_addA addD_ok (de_var (pv 2)) (de_frz (df_lst (da_cons de_str (da_cons de_str (da_cons de_str (da_cons de_str (da_cons de_str (da_cons (de_op op_addA addD_ok (de_var (pv 1)) de_str) (da_cons (de_tup (da_cons (de_var (pv 1)) da_nil)) da_nil)))))))))) da_nil)))) dss_nil)
    (dss_cons (ds_if (PW.pt (dt_and (dt_val (de_isi (tn := "int") (de_var (pv 1)) (T.free "isinstance") (T.free "int"))) (dt_and (dt_not (dt_val (de_isi (tn := "bool") (de_var (pv 1)) (T.free "isinstance") (T.free "bool")))) (pw_and1 (dt_cmp op_gtA ordD_ok (de_callW (c_take T) hr (pv 0) (da_cons de_int da_nil)) de_int (nomark _)))))) (dss_one (ds_ret (de_callW (c_pick T) hr (pv 0) (da_cons (de_frz (df_lst (da_cons (de_op op_addA addD_ok (de_var (pv 1)) de_int) (da_cons (de_op op_sub subD_ok (de_var (pv 1)) de_int) (da_cons (de_neg de_int) (da_cons de_int (da_cons de_int (da_cons de_bl (da_cons de_bl (da_cons (de_calT call_str_int strD_ok (da_cons (de_var (pv 1)) da_nil) (T.free "str")) da_nil)))))))))) da_nil)))) dss_nil)
    (dss_one (ds_ret (de_callW (c_pick T) hr (pv 0) (da_cons (de_frz (df_lst (da_cons de_non (da_cons de_int (da_cons de_bl (da_cons de_str (da_cons (de_tup da_nil) (da_cons (de_frz (df_lst da_nil)) (da_cons de_dct0 (da_cons (de_tup (da_cons de_str (da_cons de_str (da_cons (de_tup (da_cons de_str da_nil)) da_nil)))) (da_cons (de_tup (da_cons de_non da_nil)) (da_cons (de_neg de_int) da_nil)))))))))))) da_nil)))))))
end
end K19

set_option maxHeartbeats 400000
namespace K19
open PySem PySem.Spec PyProof.Rows L2 He Sa NdefX RZ
section
variable {P : Program} {w : World} {K : PySem.W.Frag} {mg : Str → Option Value} {base : Heap}
/-! _law_bent -/
abbrev N_bent : List Str := ["_law_draw", "_law_thing", "_law_names_here", "_law_path"]
theorem sc_bent : FnScope N_bent ["_law_draw", "_law_thing", "_law_names_here"] (defScope sbent) := ⟨rfl, rfl, rfl, by decide +kernel, rfl, by decide +kernel, by decide +kernel⟩
noncomputable def g_bent : SM := (seqS (asgS (.nm 3) (callW m_pick 0 (consA (callE m_places (consA (getV 1) nilA)) nilA)))
  (retS (callE (m_put_at 16) (consA (getV 1) (consA (getV 3) (consA (callW m_odd 0 (consA (callE m_part_at (consA (getV 1) (consA (getV 3) nilA))) (consA (getV 2) nilA))) nilA))))))
noncomputable def m_bent : DrA → DrS → List PyData → Option (PyData × DrS) := fnW g_bent 4 3
theorem c_bent (T : Tx sx K mg) : Cal P w K mg base "_law_bent" 18 ["_law_draw", "_law_thing", "_law_names_here"] (spW K m_bent) :=
  T.calW (N := N_bent) (g := g_bent) 33 rfl (by decide +kernel) sc_bent (fun _ _ _ _ _ _ us hl => match us, hl with | [_, _, _], _ => rfl) fun cdv A outer s H E hr => by
    exact (dss_cons (ds_set (i := 3) sc_bent.nd rfl (Or.inl rfl) (de_callW (c_pick T) hr (pv 0) (da_cons (de_call (c_places T) hr (da_cons (de_var (pv 1)) da_nil)) da_nil)))
    (dss_one (ds_ret (de_call (c_put_at T 16) hr (da_cons (de_var (pv 1)) (da_cons (de_var (pv 3)) (da_cons (de_callW (c_odd T) hr (pv 0) (da_cons (de_call (c_part_at T) hr (da_cons (de_var (pv 1)) (da_cons (de_var (pv 3)) da_nil))) (da_cons (de_var (pv 2)) da_nil))) da_nil)))))))
end
end K19

set_option maxHeartbeats 400000
namespace K19
open PySem PySem.Spec PyProof.Rows L2 He Sa NdefX RZ
section
variable {P : Program} {w : World} {K : PySem.W.Frag} {mg : Str → Option Value} {base : Heap}
/-! _law_all_names -/
abbrev N_all_names : List Str := ["_law_house_here", "_law_found", "_law_word_here", "_law_call", "_law_replies"]
theorem sc_all_names : FnScope N_all_names ["_law_house_here"] (defScope sall_names) := ⟨rfl, rfl, rfl, by decide +kernel, rfl, by decide +kernel, by decide +kernel⟩
def g_all_names : SM := (seqS (ownS 1 (lstE nilA))
  (seqS (loopS (.tp [.nm 2, .nm 3, .nm 4]) (itF (.tp [.nm 2, .nm 3, .nm 4]) (ixV 0 (ret (.int 1)))) (asgS (.nm 1) (m2 addD (m2 addD (getV 1) (frzE (lstE (consA (getV 3) nilA)))) (frzE (listQ (lookV 4))))))
  (retS (getV 1))))
def m_all_names : List PyData → Option FR := fnD g_all_names 5 1
theorem c_all_names (T : Tx sx K mg) : Cal P w K mg base "_law_all_names" 1 ["_law_house_here"] (spF K m_all_names) :=
  T.calD (N := N_all_names) (g := g_all_names) 34 rfl (by decide +kernel) sc_all_names (fun _ _ _ _ _ _ us hl => match us, hl with | [_], _ => rfl) fun cdv A outer s H E hr => by
    exact (dss_cons (ds_own (i := 1) sc_all_names.nd rfl (Or.inl rfl) (df_lst da_nil))
    (dss_cons (ds_for (own := [2, 3, 4]) (passes_of rfl) rfl (di_e (de_ixV (pv 0) de_int (fun _ _ => rfl))) (dg_tup rfl (dgs_cons (dg_name (pg_name (i := 2) sc_all_names.nd rfl (Or.inl rfl))) (dgs_cons (dg_name (pg_name (i := 3) sc_all_names.nd rfl (Or.inl rfl))) (dgs_cons (dg_name (pg_name (i := 4) sc_all_names.nd rfl (Or.inl rfl))) dgs_nil)))) (dss_one (ds_set (i := 1) sc_all_names.nd rfl (Or.inl rfl) (de_op op_addA addD_ok (de_op op_addA addD_ok (de_var (pv 1)) (de_frz (df_lst (da_cons (de_var (pv 3)) da_nil)))) (de_frz (df_list (dq_var (pv 4)) (T.free "list")))))))
    (dss_one (ds_ret (de_var (pv 1))))))
end
end K19

set_option maxHeartbeats 400000
namespace K19
open PySem PySem.Spec PyProof.Rows L2 He Sa NdefX RZ
section
variable {P : Program} {w : World} {K : PySem.W.Frag} {mg : Str → Option Value} {base : Heap}
/-! _law_is_name -/
abbrev N_l_is_name : List Str := ["_law_thing", "_law_reserved", "_law_letter"]
theorem sc_l_is_name : FnScope N_l_is_name ["_law_thing"] (defScope sl_is_name) := ⟨rfl, rfl, rfl, by decide +kernel, rfl, by decide +kernel, by decide +kernel⟩
def g_l_is_name : SM := (seqS (ownS 1 (lstE (consA (ret (.str "answer")) (consA (ret (.str "ask")) (consA (ret (.str "call")) (consA (ret (.str "clause")) (consA (ret (.str "copy")) (consA (ret (.str "document")) (consA (ret (.str "draw")) (consA (ret (.str "false")) (consA (ret (.str "give")) (consA (ret (.str "house")) (consA (ret (.str "inner")) (consA (ret (.str "law")) (consA (ret (.str "never")) (consA (ret (.str "node")) (consA (ret (.str "outer")) nilA)))))))))))))))))
  (seqS (ifS (orT (notT (asB (isiE "str" (getV 0)))) (orT (notT (asB (chD leD leD (ret (.int 1)) (lenVE 0) (ret (.int 8))))) (asB (m2 inE (getV 0) (m2 addD (getV 1) (frzE (lstE (consA (ret (.str "program")) (consA (ret (.str "state")) (consA (ret (.str "true")) (consA (ret (.str "wait")) nilA))))))))))) (retS (ret (.bool false))) nxS)
  (retS (m2 eqD (frzE (lcE [2] (.nm 2) (itF (.nm 2) (getV 0)) (asB (m2 notInE (getV 2) (ret (.str "abcdefghijklmnopqrstuvwxyz")))) (getV 2))) (frzE (lstE nilA))))))
def m_l_is_name : List PyData → Option FR := fnD g_l_is_name 3 1
theorem c_l_is_name (T : Tx sx K mg) : Cal P w K mg base "_law_is_name" 1 ["_law_thing"] (spF K m_l_is_name) :=
  T.calD (N := N_l_is_name) (g := g_l_is_name) 35 rfl (by decide +kernel) sc_l_is_name (fun _ _ _ _ _ _ us hl => match us, hl with | [_], _ => rfl) fun cdv A outer s H E hr => by
    exact (dss_cons (ds_own (i := 1) sc_l_is_name.nd rfl (Or.inl rfl) (df_lst (da_cons de_str (da_cons de_str (da_cons de_str (da_cons de_str (da_cons de_str (da_cons de_str (da_cons de_str (da_cons de_str (da_cons de_str (da_cons de_str (da_cons de_str (da_cons de_str (da_cons de_str (da_cons de_str (da_cons de_str da_nil)))))))))))))))))
    (dss_cons (ds_if (PW.pt (dt_or (dt_not (dt_val (de_isi (tn := "str") (de_var (pv 0)) (T.free "isinstance") (T.free "str")))) (dt_or (dt_not (dt_ch op_leA ordD_ok op_leA ordD_ok de_int (de_lenV (pv 0) (T.free "len")) de_int)) (pw_or1 (dt_cmp (op_inA (u65 hr)) inE_ok (de_var (pv 0)) (de_op op_addA addD_ok (de_var (pv 1)) (de_frz (df_lst (da_cons de_str (da_cons de_str (da_cons de_str (da_cons de_str da_nil))))))) (by rfl)))))) (dss_one (ds_ret de_bl)) dss_nil)
    (dss_one (ds_ret (de_cmp (op_eqA hr.units) eqD_ok (de_frz (df_lc (W' := E0) (own := [("_law_letter", 2)]) rfl sc_l_is_name.nd (di_e (de_var (pv 0))) (blkOk_by (N := N_l_is_name) (sc := defScope sl_is_name) (by decide +kernel)) (fun _ _ _ _ _ => (dg_name (pg_name (i := 2) sc_l_is_name.nd rfl (Or.inl rfl)))) (fun _ _ _ _ _ => (dts_one (dt_cmp (op_notInA (u65 hr)) notInE_ok (de_var (pv 2)) de_str (by rfl)))) (fun _ _ _ _ _ => (de_var (pv 2))))) (de_frz (df_lst da_nil)) (nomark _))))))
end
end K19

set_option maxHeartbeats 400000
namespace K19
open PySem PySem.Spec PyProof.Rows L2 He Sa NdefX RZ
section
variable {P : Program} {w : World} {K : PySem.W.Frag} {mg : Str → Option Value} {base : Heap}
/-! _law_are_names -/
abbrev N_l_are_names : List Str := ["_law_thing", "_law_most", "_law_name"]
theorem sc_l_are_names : FnScope N_l_are_names ["_law_thing", "_law_most"] (defScope sl_are_names) := ⟨rfl, rfl, rfl, by decide +kernel, rfl, by decide +kernel, by decide +kernel⟩
def g_l_are_names : SM := (seqS (ifS (orT (notT (asB (isiE "tuple" (getV 0)))) (orT (notT (asB (chD leD leD (ret (.int 1)) (lenVE 0) (getV 1)))) (asB (m2 neD (frzE (lcE [2] (.nm 2) (itF (.nm 2) (getV 0)) (notT (asB (callE m_l_is_name (consA (getV 2) nilA)))) (ret (.int 1)))) (frzE (lstE nilA)))))) (retS (ret (.bool false))) nxS)
  (retS (m2 eqD (lenSetE (lookV 0)) (lenVE 0))))
def m_l_are_names : List PyData → Option FR := fnD g_l_are_names 3 2
theorem c_l_are_names (T : Tx sx K mg) : Cal P w K mg base "_law_are_names" 2 ["_law_thing", "_law_most"] (spF K m_l_are_names) :=
  T.calD (N := N_l_are_names) (g := g_l_are_names) 36 rfl (by decide +kernel) sc_l_are_names (fun _ _ _ _ _ _ us hl => match us, hl with | [_, _], _ => rfl) fun cdv A outer s H E hr => by
    exact (dss_cons (ds_if (PW.pt (dt_or (dt_not (dt_val (de_isi (tn := "tuple") (de_var (pv 0)) (T.free "isinstance") (T.free "tuple")))) (dt_or (dt_not (dt_ch op_leA ordD_ok op_leA ordD_ok de_int (de_lenV (pv 0) (T.free "len")) (de_var (pv 1)))) (pw_or1 (dt_cmp (op_neD hr.units) neD_ok (de_frz (df_lc (W' := E0) (own := [("_law_name", 2)]) rfl sc_l_are_names.nd (di_e (de_var (pv 0))) (blkOk_by (N := N_l_are_names) (sc := defScope sl_are_names) (by decide +kernel)) (fun _ _ _ _ _ => (dg_name (pg_name (i := 2) sc_l_are_names.nd rfl (Or.inl rfl)))) (fun _ _ _ _ _ => (dts_one (dt_not (dt_val (de_call (c_l_is_name T) hr (da_cons (de_var (pv 2)) da_nil)))))) (fun _ _ _ _ _ => de_int))) (de_frz (df_lst da_nil)) (nomark _)))))) (dss_one (ds_ret de_bl)) dss_nil)
    (dss_one (ds_ret (de_cmp (op_eqA hr.units) eqD_ok (de_lenSet (dq_var (pv 0)) (T.free "len") (T.free "set")) (de_lenV (pv 0) (T.free "len")) (nomark _)))))
end
end K19

set_option maxHeartbeats 400000
namespace K19
open PySem PySem.Spec PyProof.Rows L2 He Sa NdefX RZ
section
variable {P : Program} {w : World} {K : PySem.W.Frag} {mg : Str → Option Value} {base : Heap}
/-! _law_has_head -/
abbrev N_has_head : List Str := ["_law_thing", "_law_word_here", "_law_many"]
theorem sc_has_head : FnScope N_has_head ["_law_thing", "_law_word_here", "_law_many"] (defScope shas_head) := ⟨rfl, rfl, rfl, by decide +kernel, rfl, by decide +kernel, by decide +kernel⟩
def g_has_head : SM := (retS (andV (isiE "tuple" (getV 0)) (andV (m2 eqD (lenVE 0) (getV 2)) (andV (isiE "str" (ixV 0 (ret (.int 0)))) (m2 eqD (ixV 0 (ret (.int 0))) (getV 1))))))
def m_has_head : List PyData → Option FR := fnD g_has_head 3 3
theorem c_has_head (T : Tx sx K mg) : Cal P w K mg base "_law_has_head" 1 ["_law_thing", "_law_word_here", "_law_many"] (spF K m_has_head) :=
  T.calD (N := N_has_head) (g := g_has_head) 37 rfl (by decide +kernel) sc_has_head (fun _ _ _ _ _ _ us hl => match us, hl with | [_, _, _], _ => rfl) fun cdv A outer s H E hr => by
    exact (dss_one (ds_ret (de_and (de_isi (tn := "tuple") (de_var (pv 0)) (T.free "isinstance") (T.free "tuple")) (de_and (de_cmp (op_eqA hr.units) eqD_ok (de_lenV (pv 0) (T.free "len")) (de_var (pv 2)) (nomark _)) (de_and (de_isi (tn := "str") (de_ixV (pv 0) de_int (fun _ _ => rfl)) (T.free "isinstance") (T.free "str")) (pe_one (de_cmp (op_eqA hr.units) eqD_ok (de_ixV (pv 0) de_int (fun _ _ => rfl)) (de_var (pv 1)) (nomark _))))))))
end
end K19

set_option maxHeartbeats 400000
namespace K19
open PySem PySem.Spec PyProof.Rows L2 He Sa NdefX RZ
section
variable {P : Program} {w : World} {K : PySem.W.Frag} {mg : Str → Option Value} {base : Heap}
/-! _law_is_house -/
abbrev N_l_is_house : List Str := ["_law_thing", "_law_call"]
theorem sc_l_is_house : FnScope N_l_is_house ["_law_thing"] (defScope sl_is_house) := ⟨rfl, rfl, rfl, by decide +kernel, rfl, by decide +kernel, by decide +kernel⟩
def g_l_is_house : SM := (seqS (ifS (orT (notT (asB (callE m_has_head (consA (getV 0) (consA (ret (.str "house")) (consA (ret (.int 2)) nilA)))))) (orT (notT (asB (isiE "tuple" (ixV 0 (ret (.int 1)))))) (notT (asB (chD leD leD (ret (.int 1)) (calE (c1 lenD) (consA (ixV 0 (ret (.int 1))) nilA)) (ret (.int 5))))))) (retS (ret (.bool false))) nxS)
  (seqS (loopS (.nm 1) (itF (.nm 1) (ixV 0 (ret (.int 1)))) (ifS (orT (notT (asB (callE m_has_head (consA (getV 1) (consA (ret (.str "call")) (consA (ret (.int 3)) nilA)))))) (orT (notT (asB (callE m_l_is_name (consA (ixV 1 (ret (.int 1))) nilA)))) (notT (asB (callE m_l_are_names (consA (ixV 1 (ret (.int 2))) (consA (ret (.int 5)) nilA))))))) (retS (ret (.bool false))) nxS))
  (retS (m2 eqD (lenSetE (sqF (lcE [1] (.nm 1) (itF (.nm 1) (ixV 0 (ret (.int 1)))) yesT (ixV 1 (ret (.int 1)))))) (calE (c1 lenD) (consA (ixV 0 (ret (.int 1))) nilA))))))
def m_l_is_house : List PyData → Option FR := fnD g_l_is_house 2 1
theorem c_l_is_house (T : Tx sx K mg) : Cal P w K mg base "_law_is_house" 3 ["_law_thing"] (spF K m_l_is_house) :=
  T.calD (N := N_l_is_house) (g := g_l_is_house) 38 rfl (by decide +kernel) sc_l_is_house (fun _ _ _ _ _ _ us hl => match us, hl with | [_], _ => rfl) fun cdv A outer s H E hr => by
    exact (dss_cons (ds_if (PW.pt (dt_or (dt_not (dt_val (de_call (c_has_head T) hr (da_cons (de_var (pv 0)) (da_cons de_str (da_cons de_int da_nil)))))) (dt_or (dt_not (dt_val (de_isi (tn := "tuple") (de_ixV (pv 0) de_int (fun _ _ => rfl)) (T.free "isinstance") (T.free "tuple")))) (pw_or1 (dt_not (dt_ch op_leA ordD_ok op_leA ordD_ok de_int (de_calB call_len lenD_ok (da_cons (de_ixV (pv 0) de_int (fun _ _ => rfl)) da_nil) (T.free "len")) de_int)))))) (dss_one (ds_ret de_bl)) dss_nil)
    (dss_cons (ds_for (own := [1]) (passes_of rfl) rfl (di_e (de_ixV (pv 0) de_int (fun _ _ => rfl))) (dg_name (pg_name (i := 1) sc_l_is_house.nd rfl (Or.inl rfl))) (dss_one (ds_if (PW.pt (dt_or (dt_not (dt_val (de_call (c_has_head T) hr (da_cons (de_var (pv 1)) (da_cons de_str (da_cons de_int da_nil)))))) (dt_or (dt_not (dt_val (de_call (c_l_is_name T) hr (da_cons (de_ixV (pv 1) de_int (fun _ _ => rfl)) da_nil)))) (pw_or1 (dt_not (dt_val (de_call (c_l_are_names T) hr (da_cons (de_ixV (pv 1) de_int (fun _ _ => rfl)) (da_cons de_int da_nil))))))))) (dss_one (ds_ret de_bl)) dss_nil)))
    (dss_one (ds_ret (de_cmp (op_eqA hr.units) eqD_ok (de_lenSet (dq_f (df_lc (W' := E0) (own := [("_law_call", 1)]) rfl sc_l_is_house.nd (di_e (de_ixV (pv 0) de_int (fun _ _ => rfl))) (blkOk_by (N := N_l_is_house) (sc := defScope sl_is_house) (by decide +kernel)) (fun _ _ _ _ _ => (dg_name (pg_name (i := 1) sc_l_is_house.nd rfl (Or.inl rfl)))) (fun _ _ _ _ _ => dts_nil) (fun _ _ _ _ _ => (de_ixV (pv 1) de_int (fun _ _ => rfl))))) (T.free "len") (T.free "set")) (de_calB call_len lenD_ok (da_cons (de_ixV (pv 0) de_int (fun _ _ => rfl)) da_nil) (T.free "len")) (nomark _))))))
end
end K19

set_option maxHeartbeats 400000
namespace K19
open PySem PySem.Spec PyProof.Rows L2 He Sa NdefX RZ
section
variable {P : Program} {w : World} {K : PySem.W.Frag} {mg : Str → Option Value} {base : Heap}
/-! _law_is_whole -/
abbrev N_is_whole : List Str := ["_law_thing"]
theorem sc_is_whole : FnScope N_is_whole ["_law_thing"] (defScope sis_whole) := ⟨rfl, rfl, rfl, by decide +kernel, rfl, by decide +kernel, by decide +kernel⟩
def g_is_whole : SM := (retS (andV (isiE "int" (getV 0)) (notV (isiE "bool" (getV 0)))))
def m_is_whole : List PyData → Option FR := fnD g_is_whole 1 1
theorem c_is_whole (T : Tx sx K mg) : Cal P w K mg base "_law_is_whole" 1 ["_law_thing"] (spF K m_is_whole) :=
  T.calD (N := N_is_whole) (g := g_is_whole) 39 rfl (by decide +kernel) sc_is_whole (fun _ _ _ _ _ _ us hl => match us, hl with | [_], _ => rfl) fun cdv A outer s H E hr => by
    exact (dss_one (ds_ret (de_and (de_isi (tn := "int") (de_var (pv 0)) (T.free "isinstance") (T.free "int")) (pe_one (de_not (de_isi (tn := "bool") (de_var (pv 0)) (T.free "isinstance") (T.free "bool")))))))
end
end K19

set_option maxHeartbeats 400000
namespace K19
open PySem PySem.Spec PyProof.Rows L2 He Sa NdefX RZ
section
variable {P : Program} {w : World} {K : PySem.W.Frag} {mg : Str → Option Value} {base : Heap}
/-! _law_is_program -/
abbrev N_l_is_program : List Str := ["_law_thing", "_law_row", "_law_call", "_law_pair"]
theorem sc_l_is_program : FnScope N_l_is_program ["_law_thing"] (defScope sl_is_program) := ⟨rfl, rfl, rfl, by decide +kernel, rfl, by decide +kernel, by decide +kernel⟩
def g_l_is_program : SM := (seqS (ifS (orT (notT (asB (callE m_has_head (consA (getV 0) (consA (ret (.str "program")) (consA (ret (.int 3)) nilA)))))) (orT (notT (asB (callE m_l_is_house (consA (ixV 0 (ret (.int 1))) nilA)))) (orT (notT (asB (isiE "tuple" (ixV 0 (ret (.int 2)))))) (asB (m2 eqD (ixV 0 (ret (.int 2))) (tupE nilA)))))) (retS (ret (.bool false))) nxS)
  (seqS (loopS (.nm 1) (itF (.nm 1) (ixV 0 (ret (.int 2)))) (seqS (ifS (orT (notT (asB (isiE "tuple" (getV 1)))) (asB (m2 neD (lenVE 1) (calE (c1 lenD) (consA (m2 ixD (ixV 0 (ret (.int 1))) (ret (.int 1))) nilA))))) (retS (ret (.bool false))) nxS)
  (loopS (.tp [.nm 2, .nm 3]) (zipE (consA (m2 ixD (ixV 0 (ret (.int 1))) (ret (.int 1))) (consA (getV 1) nilA))) (seqS (ifS (orT (notT (asB (isiE "tuple" (getV 3)))) (orT (asB (m2 neD (lenVE 3) (ret (.int 2)))) (orT (notT (asB (isiE "str" (ixV 3 (ret (.int 0)))))) (asB (m2 notInE (ixV 3 (ret (.int 0))) (ixV 2 (ret (.int 2)))))))) (retS (ret (.bool false))) nxS)
  (ifS (orT (notT (asB (callE m_is_whole (consA (ixV 3 (ret (.int 1))) nilA)))) (notT (asB (chD leD ltD (ret (.int 0)) (ixV 3 (ret (.int 1))) (calE (c1 lenD) (consA (ixV 0 (ret (.int 2))) nilA)))))) (retS (ret (.bool false))) nxS)))))
  (retS (ret (.bool true)))))
def m_l_is_program : List PyData → Option FR := fnD g_l_is_program 4 1
theorem c_l_is_program (T : Tx sx K mg) : Cal P w K mg base "_law_is_program" 4 ["_law_thing"] (spF K m_l_is_program) :=
  T.calD (N := N_l_is_program) (g := g_l_is_program) 40 rfl (by decide +kernel) sc_l_is_program (fun _ _ _ _ _ _ us hl => match us, hl with | [_], _ => rfl) fun cdv A outer s H E hr => by
    exact (dss_cons (ds_if (PW.pt (dt_or (dt_not (dt_val (de_call (c_has_head T) hr (da_cons (de_var (pv 0)) (da_cons de_str (da_cons de_int da_nil)))))) (dt_or (dt_not (dt_val (de_call (c_l_is_house T) hr (da_cons (de_ixV (pv 0) de_int (fun _ _ => rfl)) da_nil)))) (dt_or (dt_not (dt_val (de_isi (tn := "tuple") (de_ixV (pv 0) de_int (fun _ _ => rfl)) (T.free "isinstance") (T.free "tuple")))) (pw_or1 (dt_cmp (op_eqA hr.units) eqD_ok (de_ixV (pv 0) de_int (fun _ _ => rfl)) (de_tup da_nil) (nomark _))))))) (dss_one (ds_ret de_bl)) dss_nil)
    (dss_cons (ds_for (own := [1]) (passes_of rfl) rfl (di_e (de_ixV (pv 0) de_int (fun _ _ => rfl))) (dg_name (pg_name (i := 1) sc_l_is_program.nd rfl (Or.inl rfl))) (dss_cons (ds_if (PW.pt (dt_or (dt_not (dt_val (de_isi (tn := "tuple") (de_var (pv 1)) (T.free "isinstance") (T.free "tuple")))) (pw_or1 (dt_cmp (op_neD hr.units) neD_ok (de_lenV (pv 1) (T.free "len")) (de_calB call_len lenD_ok (da_cons (de_ix (de_ixV (pv 0) de_int (fun _ _ => rfl)) de_int (fun _ _ => rfl)) da_nil) (T.free "len")) (nomark _))))) (dss_one (ds_ret de_bl)) dss_nil)
    (dss_one (ds_for (own := [2, 3]) (passes_of rfl) rfl (di_zip (T.free "zip") (da_cons (de_ix (de_ixV (pv 0) de_int (fun _ _ => rfl)) de_int (fun _ _ => rfl)) (da_cons (de_var (pv 1)) da_nil))) (dg_tup rfl (dgs_cons (dg_name (pg_name (i := 2) sc_l_is_program.nd rfl (Or.inl rfl))) (dgs_cons (dg_name (pg_name (i := 3) sc_l_is_program.nd rfl (Or.inl rfl))) dgs_nil))) (dss_cons (ds_if (PW.pt (dt_or (dt_not (dt_val (de_isi (tn := "tuple") (de_var (pv 3)) (T.free "isinstance") (T.free "tuple")))) (dt_or (dt_cmp (op_neD hr.units) neD_ok (de_lenV (pv 3) (T.free "len")) de_int (nomark _)) (dt_or (dt_not (dt_val (de_isi (tn := "str") (de_ixV (pv 3) de_int (fun _ _ => rfl)) (T.free "isinstance") (T.free "str")))) (pw_or1 (dt_cmp (op_notInA (u65 hr)) notInE_ok (de_ixV (pv 3) de_int (fun _ _ => rfl)) (de_ixV (pv 2) de_int (fun _ _ => rfl)) (by rfl))))))) (dss_one (ds_ret de_bl)) dss_nil)
    (dss_one (ds_if (PW.pt (dt_or (dt_not (dt_val (de_call (c_is_whole T) hr (da_cons (de_ixV (pv 3) de_int (fun _ _ => rfl)) da_nil)))) (pw_or1 (dt_not (dt_ch op_leA ordD_ok op_ltA ordD_ok de_int (de_ixV (pv 3) de_int (fun _ _ => rfl)) (de_calB call_len lenD_ok (da_cons (de_ixV (pv 0) de_int (fun _ _ => rfl)) da_nil) (T.free "len"))))))) (dss_one (ds_ret de_bl)) dss_nil)))))))
    (dss_one (ds_ret de_bl))))
end
end K19

set_option maxHeartbeats 400000
namespace K19
open PySem PySem.Spec PyProof.Rows L2 He Sa NdefX RZ
section
variable {P : Program} {w : World} {K : PySem.W.Frag} {mg : Str → Option Value} {base : Heap}
/-! _law_state -/
abbrev N_state : List Str := ["_law_program_here", "_law_word_here", "_law_state_here", "_law_call"]
theorem sc_state : FnScope N_state ["_law_program_here", "_law_word_here"] (defScope sstate) := ⟨rfl, rfl, rfl, by decide +kernel, rfl, by decide +kernel, by decide +kernel⟩
def g_state : SM := (seqS (asgS (.nm 2) (ret (.int 0)))
  (seqS (loopS (.nm 3) (itF (.nm 3) (getV 1)) (asgS (.nm 2) (m2 ixD (m2 ixD (m2 ixD (ixV 0 (ret (.int 2))) (getV 2)) (idxE (callE m_calls (consA (ixV 0 (ret (.int 1))) nilA)) (getV 3))) (ret (.int 1)))))
  (retS (getV 2))))
def m_state : List PyData → Option FR := fnD g_state 4 2
theorem c_state (T : Tx sx K mg) : Cal P w K mg base "_law_state" 2 ["_law_program_here", "_law_word_here"] (spF K m_state) :=
  T.calD (N := N_state) (g := g_state) 41 rfl (by decide +kernel) sc_state (fun _ _ _ _ _ _ us hl => match us, hl with | [_, _], _ => rfl) fun cdv A outer s H E hr => by
    exact (dss_cons (ds_set (i := 2) sc_state.nd rfl (Or.inl rfl) de_int)
    (dss_cons (ds_for (own := [3]) (passes_of rfl) rfl (di_e (de_var (pv 1))) (dg_name (pg_name (i := 3) sc_state.nd rfl (Or.inl rfl))) (dss_one (ds_set (i := 2) sc_state.nd rfl (Or.inl rfl) (de_ix (de_ix (de_ix (de_ixV (pv 0) de_int (fun _ _ => rfl)) (de_var (pv 2)) (fun _ _ => rfl)) (de_index (u65 hr) (de_call (c_calls T) hr (da_cons (de_ixV (pv 0) de_int (fun _ _ => rfl)) da_nil)) (de_var (pv 3))) (fun _ _ => rfl)) de_int (fun _ _ => rfl)))))
    (dss_one (ds_ret (de_var (pv 2))))))
end
end K19

set_option maxHeartbeats 400000
namespace K19
open PySem PySem.Spec PyProof.Rows L2 He Sa NdefX RZ
section
variable {P : Program} {w : World} {K : PySem.W.Frag} {mg : Str → Option Value} {base : Heap}
/-! _law_bad_word -/
abbrev N_bad_word : List Str := ["_law_draw", "_law_house_here", "_law_word_here", "_law_call"]
theorem sc_bad_word : FnScope N_bad_word ["_law_draw", "_law_house_here", "_law_word_here"] (defScope sbad_word) := ⟨rfl, rfl, rfl, by decide +kernel, rfl, by decide +kernel, by decide +kernel⟩
def g_bad_word : SM := (seqS (asgS (.nm 3) (m2 ixD (callE m_calls (consA (getV 1) nilA)) (ret (.int 0))))
  (retS (callW m_pick 0 (consA (frzE (lstE (consA (ret .none) (consA (ret (.int 5)) (consA (getV 3) (consA (frzE (listQ (lookV 2))) (consA (m2 addD (getV 2) (tupE (consA (ret (.str "zzzzzzzz")) nilA))) (consA (m2 addD (getV 2) (tupE (consA (ret .none) nilA))) (consA (m2 addD (getV 2) (tupE (consA (tupE (consA (getV 3) nilA)) nilA))) (consA (ret (.dict [])) (consA (tupE (consA (upE (getV 3)) nilA)) nilA))))))))))) nilA))))
def m_bad_word : DrA → DrS → List PyData → Option (PyData × DrS) := fnW g_bad_word 4 3
theorem c_bad_word (T : Tx sx K mg) : Cal P w K mg base "_law_bad_word" 4 ["_law_draw", "_law_house_here", "_law_word_here"] (spW K m_bad_word) :=
  T.calW (N := N_bad_word) (g := g_bad_word) 43 rfl (by decide +kernel) sc_bad_word (fun _ _ _ _ _ _ us hl => match us, hl with | [_, _, _], _ => rfl) fun cdv A outer s H E hr => by
    exact (dss_cons (ds_set (i := 3) sc_bad_word.nd rfl (Or.inl rfl) (de_ix (de_call (c_calls T) hr (da_cons (de_var (pv 1)) da_nil)) de_int (fun _ _ => rfl)))
    (dss_one (ds_ret (de_callW (c_pick T) hr (pv 0) (da_cons (de_frz (df_lst (da_cons de_non (da_cons de_int (da_cons (de_var (pv 3)) (da_cons (de_frz (df_list (dq_var (pv 2)) (T.free "list"))) (da_cons (de_op op_addA addD_ok (de_var (pv 2)) (de_tup (da_cons de_str da_nil))) (da_cons (de_op op_addA addD_ok (de_var (pv 2)) (de_tup (da_cons de_non da_nil))) (da_cons (de_op op_addA addD_ok (de_var (pv 2)) (de_tup (da_cons (de_tup (da_cons (de_var (pv 3)) da_nil)) da_nil))) (da_cons de_dct0 (da_cons (de_tup (da_cons (de_upper (de_var (pv 3))) da_nil)) da_nil))))))))))) da_nil)))))
end
end K19

set_option maxHeartbeats 400000
namespace K19
open PySem PySem.Spec PyProof.Rows L2 He Sa NdefX RZ
section
variable {P : Program} {w : World} {K : PySem.W.Frag} {mg : Str → Option Value} {base : Heap}
/-! _law_long_right -/
abbrev N_long_right : List Str := ["_law_draw", "_law_house_here", "_law_many", "_law_rows", "_law_state_here", "_law_told", "_law_program_here", "_law_word_here", "_law_k"]
theorem sc_long_right : FnScope N_long_right ["_law_draw"] (defScope slong_right) := ⟨rfl, rfl, rfl, by decide +kernel, rfl, by decide +kernel, by decide +kernel⟩
noncomputable def g_long_right : SM := (seqS (asgS (.tp [.nm 1, .nm 2]) (tupE (consA (callW m_house 0 nilA) (consA (m2 addD (ret (.int 100)) (callW m_take 0 (consA (ret (.int 301)) nilA))) nilA))))
  (seqS (ownS 3 (lcE [4] (.nm 4) (rng1 (consA (getV 2) nilA)) yesT (calQ tupQ (sqF (lcE [5] (.nm 5) (itF (.nm 5) (ixV 1 (ret (.int 1)))) yesT (tupE (consA (m2 ixD (ixV 5 (ret (.int 2))) (m2 modD (m2 divD (getV 4) (ret (.int 3))) (calE (c1 lenD) (consA (ixV 5 (ret (.int 2))) nilA)))) (consA (m2 modD (m2 addD (getV 4) (ret (.int 1))) (getV 2)) nilA))))))))
  (seqS (parS [6, 7] [.e (tupE (consA (ret (.str "program")) (consA (getV 1) (consA (calQ tupQ (lookV 3)) nilA)))), .e (calQ tupQ (sqF (lcE [8] (.nm 8) (rng1 (consA (ret (.int 200)) nilA)) yesT (callW m_pick 0 (consA (callE m_calls (consA (getV 1) nilA)) nilA)))))])
  (seqS (ifS (orT (asB (m2 neD (callX m_state_behind (consA (getV 6) (consA (getV 7) nilA))) (m2 modD (ret (.int 200)) (getV 2)))) (asB (m2 isnotE (callE m_is_program (consA (getV 6) nilA)) (ret (.bool true))))) (retS (ret (.bool false))) nxS)
  (retS (m2 eqD (callX m_history (consA (getV 6) (consA (getV 7) nilA))) (callE m_answered (consA (getV 6) (consA (getV 7) nilA)))))))))
noncomputable def m_long_right : DrA → DrS → List PyData → Option (PyData × DrS) := fnW g_long_right 9 1
theorem c_long_right (T : Tx sx K mg) : Cal P w K mg base "_law_long_right" 8 ["_law_draw"] (spW K m_long_right) :=
  T.calW (N := N_long_right) (g := g_long_right) 44 rfl (by decide +kernel) sc_long_right (fun _ _ _ _ _ _ us hl => match us, hl with | [_], _ => rfl) fun cdv A outer s H E hr => by
    have pass := passes_call (X := cxOf (L2.CX P w) P w K mg base N_long_right "_law_long_right" (defScope slong_right) (ga K "_law_long_right") cdv A outer s H E) (W := fun cls d _ H => E cls d H) (takes_of rfl rfl rfl rfl) fun _ _ _ _ h => h
    exact (dss_cons (ds_asg (own := [1, 2]) (de_tup (da_cons (de_callW (c_house T) hr (pv 0) da_nil) (da_cons (de_op op_addA addD_ok de_int (de_callW (c_take T) hr (pv 0) (da_cons de_int da_nil))) da_nil))) (dg_tup rfl (dgs_cons (dg_name (pg_name (i := 1) sc_long_right.nd rfl (Or.inr rfl))) (dgs_cons (dg_name (pg_name (i := 2) sc_long_right.nd rfl (Or.inr rfl))) dgs_nil))))
    (dss_cons (ds_lc (i := 3) (W' := E0) (own := [("_law_state_here", 4)]) rfl sc_long_right.nd rfl rfl (sw_true rfl rfl rfl (by decide +kernel)) (di_range1 (T.free "range") (da_cons (de_var (pv 2)) da_nil)) (blkOk_by (N := N_long_right) (sc := defScope slong_right) (by decide +kernel)) (fun _ _ _ _ _ => (dg_name (pg_name (i := 4) sc_long_right.nd rfl (Or.inr rfl)))) (fun _ _ _ _ _ => dts_nil) (fun _ _ _ _ _ => (de_qT call_tupleF tupQ_ok (dq_f (df_lc (W' := E0) (own := [("_law_told", 5)]) rfl sc_long_right.nd (di_e (de_ixV (pv 1) de_int (fun _ _ => rfl))) (blkOk_by (by rfl)) (fun _ _ _ _ _ => (dg_name (pg_name (i := 5) sc_long_right.nd rfl (Or.inl rfl)))) (fun _ _ _ _ _ => dts_nil) (fun _ _ _ _ _ => (de_tup (da_cons (de_ix (de_ixV (pv 5) de_int (fun _ _ => rfl)) (de_op op_modN modD_ok (de_op op_fdivN divD_ok (de_var (pv 4)) de_int) (de_calB call_len lenD_ok (da_cons (de_ixV (pv 5) de_int (fun _ _ => rfl)) da_nil) (T.free "len"))) (fun _ _ => rfl)) (da_cons (de_op op_modN modD_ok (de_op op_addA addD_ok (de_var (pv 4)) de_int) (de_var (pv 2))) da_nil)))))) (T.free "tuple"))))
    (dss_cons (ds_par (i := 6) (j := 7) rfl sc_long_right.nd rfl rfl (by decide) rfl rfl (dr_e (de_tup (da_cons de_str (da_cons (de_var (pv 1)) (da_cons (de_qT call_tupleF tupQ_ok (dq_var (pv 3)) (T.free "tuple")) da_nil)))) (dr_e (de_qT call_tupleF tupQ_ok (dq_f (df_lc (W' := E0) (own := [("_law_k", 8)]) rfl sc_long_right.nd (di_range1 (T.free "range") (da_cons de_int da_nil)) (blkOk_by (N := N_long_right) (sc := defScope slong_right) (by decide +kernel)) (fun _ _ _ _ _ => (dg_name (pg_name (i := 8) sc_long_right.nd rfl (Or.inl rfl)))) (fun _ _ _ _ _ => dts_nil) (fun _ _ _ _ _ => (de_callW (c_pick T) hr (pv 0) (da_cons (de_call (c_calls T) hr (da_cons (de_var (pv 1)) da_nil)) da_nil))))) (T.free "tuple")) dr_nil)) (by rfl))
    (dss_cons (ds_if (PW.pt (dt_or (dt_cmp (op_neD hr.units) neD_ok (de_callX (c_state_behind T) hr (da_cons (de_var (pv 6)) (da_cons (de_var (pv 7)) da_nil)) pass) (de_op op_modN modD_ok de_int (de_var (pv 2))) (nomark _)) (pw_or1 (dt_cmp op_isnotA isnotE_ok (de_call (c_is_program T) hr (da_cons (de_var (pv 6)) da_nil)) de_bl (nomark _))))) (dss_one (ds_ret de_bl)) dss_nil)
    (dss_one (ds_ret (de_cmp (op_eqA hr.units) eqD_ok (de_callX (c_history T) hr (da_cons (de_var (pv 6)) (da_cons (de_var (pv 7)) da_nil)) pass) (de_call (c_answered T) hr (da_cons (de_var (pv 6)) (da_cons (de_var (pv 7)) da_nil))) (nomark _))))))))
end
end K19

set_option maxHeartbeats 4000000
namespace K19
open PySem PySem.Spec PyProof.Rows L2 He Sa NdefX RZ
def resL : List Str := ["answer", "ask", "call", "clause", "copy", "document", "draw", "false", "give", "house", "inner", "law", "never", "node", "outer"]
def resM : List Str := ["program", "state", "true", "wait"]
theorem res_kept : resL ++ resM = keptL := by decide +kernel
theorem res_strs : strsD (resL.map PyData.str ++ resM.map PyData.str) := by
  rw [← List.map_append, res_kept]
  exact kept_strs
theorem res_in {x : Str} (h : PyData.strOk x = true) : inE (.str x) (.list (resL.map PyData.str ++ resM.map PyData.str)) = some (.bool (inKept x)) := by
  rw [inE_lst h (strs_shaped res_strs).2]
  unfold inKept
  rw [← res_kept, List.map_append]
theorem eqD_nilL (xs : List PyData) : eqD (.list xs) (.list []) = some (.bool xs.isEmpty) := by
  unfold eqD Sa.eqO
  split
  · cases xs with
    | nil => rfl
    | cons x xs => rfl
  · rfl
theorem small_not (c : Nat) : notInE (.str ⟨#[c]⟩) (.str "abcdefghijklmnopqrstuvwxyz") = some (.bool (!smallC c)) := rfl
theorem filt_none {α : Type} (p : α → Bool) (l : List α) : (l.filter fun d => !p d).isEmpty = l.all p := by
  induction l with
  | nil => rfl
  | cons x l ih =>
    rw [List.filter_cons, List.all_cons]
    cases p x with
    | true => simpa using ih
    | false => rfl
theorem p_l_is_name (d : PyData) (hd : fitD d = true) : m_l_is_name [d] = some (.ok (.bool (nameB d))) := by
  refine fnD_ok rfl ?_
  show Ws g_l_is_name [.dat d, .un, .un] _
  unfold g_l_is_name
  have lit : ∀ E : En, Pv (lstE (consA (ret (.str "answer")) (consA (ret (.str "ask")) (consA (ret (.str "call")) (consA (ret (.str "clause")) (consA (ret (.str "copy")) (consA (ret (.str "document")) (consA (ret (.str "draw")) (consA (ret (.str "false")) (consA (ret (.str "give")) (consA (ret (.str "house")) (consA (ret (.str "inner")) (consA (ret (.str "law")) (consA (ret (.str "never")) (consA (ret (.str "node")) (consA (ret (.str "outer")) nilA)))))))))))))))) E (resL.map PyData.str) := fun E => by
    refine pv_lst (ds := resL.map PyData.str) rfl ?_
    show 15 ≤ sizeLine
    decide
  have four : ∀ E : En, Pv (frzE (lstE (consA (ret (.str "program")) (consA (ret (.str "state")) (consA (ret (.str "true")) (consA (ret (.str "wait")) nilA)))))) E (.list (resM.map PyData.str)) := fun E => by
    refine pv_frz (pv_lst (ds := resM.map PyData.str) rfl ?_)
    show 4 ≤ sizeLine
    decide
  refine ws_seq (ws_own ((lit _).wp ?_))
  refine ws_seq ?_
  show Ws _ [.dat d, .own (resL.map PyData.str), .un] _
  cases d with
  | str x =>
    obtain ⟨ho, hx⟩ := fit_str hd
    have isS : Pv (notT (asB (isiE "str" (getV 0)))) [.dat (.str x), .own (resL.map PyData.str), .un] false := (pv_not (pv_asB (pv_isi (pv_get rfl)))).to rfl
    have span : Pv (notT (asB (chD leD leD (ret (.int 1)) (lenVE 0) (ret (.int 8))))) [.dat (.str x), .own (resL.map PyData.str), .un] (!(decide ((1 : Int) ≤ (x.length : Nat)) && decide (((x.length : Nat) : Int) ≤ 8))) := pv_not (pv_asB (pv_ch (pv_ret _) (pv_len rfl (len_str hx)) rfl fun _ => ⟨pv_ret _, rfl⟩))
    have nm : nameB (.str x) = (!(!(decide ((1 : Int) ≤ (x.length : Nat)) && decide (((x.length : Nat) : Int) ≤ 8)) || inKept x) && x.cps.toList.all smallC) := rfl
    cases hs : (!(decide ((1 : Int) ≤ (x.length : Nat)) && decide (((x.length : Nat) : Int) ≤ 8))) with
    | true =>
      refine ws_ifv (b := true) (pv_or_f isS rfl (pv_or_t span hs)) (fun _ => ws_retv (pv_ret _) ?_) fun h => nomatch h
      show PyData.bool false = PyData.bool (nameB (.str x))
      rw [nm, hs]
      rfl
    | false =>
      have third : Wp (orT (notT (asB (isiE "str" (getV 0)))) (orT (notT (asB (chD leD leD (ret (.int 1)) (lenVE 0) (ret (.int 8))))) (asB (m2 inE (getV 0) (m2 addD (getV 1) (frzE (lstE (consA (ret (.str "program")) (consA (ret (.str "state")) (consA (ret (.str "true")) (consA (ret (.str "wait")) nilA)))))))))))
          [.dat (.str x), .own (resL.map PyData.str), .un] fun b E => b = inKept x ∧ E = [.dat (.str x), .dat (.list (resL.map PyData.str)), .un] := by
        rw [wp_orT]
        refine isS.wp ?_
        show Wp _ _ _
        rw [wp_orT]
        refine (span.to hs).wp ?_
        show Wp _ _ _
        rw [wp_asBi, wp_m2]
        refine (pv_get (E := [.dat (.str x), .own (resL.map PyData.str), .un]) (i := 0) rfl).wp ?_
        rw [wp_m2, wp_getV]
        show Wp _ [.dat (.str x), .dat (.list (resL.map PyData.str)), .un] _
        refine (four _).wp ⟨.list (resL.map PyData.str ++ resM.map PyData.str), ?_, _, res_in ho, rfl, rfl⟩
        show (if (resL.map PyData.str).length + (resM.map PyData.str).length ≤ sizeLine then some (PyData.list (resL.map PyData.str ++ resM.map PyData.str)) else none) = _
        rw [if_pos (by show 19 ≤ sizeLine; decide)]
      refine ws_if (third.imp fun b E ⟨eb, eE⟩ => ?_)
      subst eb
      subst eE
      cases hk : inKept x with
      | true =>
        refine ws_retv (pv_ret _) ?_
        show PyData.bool false = PyData.bool (nameB (.str x))
        rw [nm, hs, hk]
        rfl
      | false =>
        refine ws_nx (ws_retv (pv_m2 (pv_frz (pv_filt (fun d => !smallP d) id rfl (pv_itF (pv_get rfl) (itO_str hx) (by simp [fitT])) fun d hd => ⟨_, rfl, rfl, ?_, fun _ => pv_get rfl⟩)) (pv_frz (pv_lst pv_nil (Nat.zero_le _))) (eqD_nilL _)) ?_)
        · obtain ⟨c, _, rfl⟩ := List.mem_map.mp hd
          exact pv_asB (pv_m2 (pv_get rfl) (pv_ret _) (small_not c))
        · show PyData.bool _ = PyData.bool (nameB (.str x))
          rw [List.map_id, filt_none, all_chars smallC smallP fun c => rfl, nm, hs, hk]
          rfl
  | _ => exact ws_ifv (b := true) (pv_or_t (pv_not (pv_asB (pv_isi (pv_get rfl)))) rfl) (fun _ => ws_retv (pv_ret _) rfl) fun h => nomatch h
theorem ones_lay : ∀ (l : List PyData), PyData.canLayAll0 (l.map fun _ => PyData.int 1) = true ∧ PyData.depthAll (l.map fun _ => PyData.int 1) = 0
  | [] => by simp [PyData.canLayAll0, PyData.depthAll]
  | x :: l => by
    obtain ⟨h1, h2⟩ := ones_lay l
    simp [PyData.canLayAll0, PyData.depthAll, PyData.canLay0, PyData.depth] at h1 h2 ⊢
    exact ⟨h1, h2⟩
theorem neD_ones (l : List PyData) : neD (.list (l.map fun _ => .int 1)) (.list []) = some (.bool (!l.isEmpty)) := by
  obtain ⟨h1, h2⟩ := ones_lay l
  unfold neD
  rw [if_pos ⟨by simp [SeqAt.shaped, PyData.canLay0, PyData.depth, h1, h2], by simp [SeqAt.shaped, PyData.canLay0, PyData.depth, PyData.canLayAll0, PyData.depthAll]⟩]
  cases l <;> rfl
theorem p_l_are_names (d : PyData) (m : Int) (hd : fitD d = true) (hm : m ≤ 1000) : m_l_are_names [d, .int m] = some (.ok (.bool (namesB m d))) := by
  cases d with
  | tuple ds =>
    obtain ⟨hf, hl⟩ := fit_tup hd
    refine fnD_ok rfl ?_
    show Ws g_l_are_names [.dat (.tuple ds), .dat (.int m), .un] _
    unfold g_l_are_names
    have span : Pv (asB (chD leD leD (ret (.int 1)) (lenVE 0) (getV 1))) [.dat (.tuple ds), .dat (.int m), .un] (spanB ds m) := pv_asB (pv_ch (pv_ret _) (pv_len rfl rfl) rfl fun _ => ⟨pv_get rfl, rfl⟩)
    have alls : Pv (asB (m2 neD (frzE (lcE [2] (.nm 2) (itF (.nm 2) (getV 0)) (notT (asB (callE m_l_is_name (consA (getV 2) nilA)))) (ret (.int 1)))) (frzE (lstE nilA)))) [.dat (.tuple ds), .dat (.int m), .un] (!ds.all nameB) := by
      have := pv_asB (pv_m2 (pv_frz (pv_filt (E := [.dat (.tuple ds), .dat (.int m), .un]) (own := [2]) (t := .nm 2) (fl := itF (.nm 2) (getV 0)) (c := notT (asB (callE m_l_is_name (consA (getV 2) nilA)))) (f := ret (.int 1)) (fun d => !nameB d) (fun _ => .int 1) rfl (pv_itF (pv_get rfl) rfl (by simp [fitT])) fun d hd => ⟨_, rfl, rfl, pv_not (pv_asB (pv_call (pv_cons (pv_get rfl) pv_nil) (p_l_is_name d (hf d hd)))), fun _ => pv_ret _⟩)) (pv_frz (pv_lst pv_nil (Nat.zero_le _))) (neD_ones _))
      rw [filt_none] at this
      exact this
    refine ws_seq (ws_ifv (pv_or (pv_not (pv_asB (pv_isi (pv_get rfl)))) fun _ => pv_or (pv_not span) fun _ => alls) (fun hb => ?_) fun hb => ?_)
    · refine ws_retv (pv_ret _) ?_
      have hb : (!spanB ds m || !ds.all nameB) = true := hb
      show PyData.bool false = PyData.bool (spanB ds m && ds.all nameB && cntB ds)
      rw [nor_f hb]
      rfl
    · have hb : (!spanB ds m || !ds.all nameB) = false := hb
      obtain ⟨h1, h2⟩ := nor_t hb
      refine ws_nx (ws_retv (pv_m2 (pv_lenSet (pv_lookT rfl) (cnt_strs (names_strs h2) (span_len h1 hm))) (pv_len rfl rfl) (eqD_int _ _)) ?_)
      show PyData.bool (cntB ds) = PyData.bool (spanB ds m && ds.all nameB && cntB ds)
      rw [h1, h2]
      rfl
  | _ => rfl
theorem p_has_head (d : PyData) (k : Str) (n : Nat) (hd : fitD d = true) (hk : PyData.strOk k = true) (hn : 1 ≤ n) : m_has_head [d, .str k, .int (n : Nat)] = some (.ok (.bool (headB d k n))) := by
  refine fnD_ok rfl ?_
  show Ws g_has_head [.dat d, .dat (.str k), .dat (.int (n : Nat))] _
  unfold g_has_head
  cases d with
  | tuple ds =>
    have len : Pv (m2 eqD (lenVE 0) (getV 2)) [.dat (.tuple ds), .dat (.str k), .dat (.int (n : Nat))] (.bool (((ds.length : Nat) : Int) == (n : Nat))) := pv_m2 (pv_len (d := .tuple ds) rfl rfl) (pv_get rfl) (eqD_int _ _)
    refine ws_retv (d := .bool (headB (.tuple ds) k n)) ?_ rfl
    cases ds with
    | nil =>
      have e : headB (.tuple []) k n = (isiB "tuple" (.tuple []) && (((([] : List PyData).length : Int) == ((n : Nat) : Int)) && false)) := by simp [headB]
      rw [e]
      refine pv_andV (pv_isi (pv_get rfl)) fun _ => pv_andV len fun h => ?_
      simp at h
      omega
    | cons a r =>
      have fa := (fit_tup hd).1 a List.mem_cons_self
      have ix : Pv (ixV 0 (ret (.int 0))) [.dat (.tuple (a :: r)), .dat (.str k), .dat (.int (n : Nat))] a := pv_ixV rfl (pv_ret _) (ix_tup (ds := a :: r) (i := 0) (d := a) rfl)
      have e1 : ((((a :: r).length : Nat) : Int) == ((n : Nat) : Int)) = (r.length + 1 == n) := by
        rw [Bool.eq_iff_iff]
        simp
        omega
      have other : isiB "str" a = false → headB (.tuple (a :: r)) k n = false → Pv (andV (isiE "tuple" (getV 0)) (andV (m2 eqD (lenVE 0) (getV 2)) (andV (isiE "str" (ixV 0 (ret (.int 0)))) (m2 eqD (ixV 0 (ret (.int 0))) (getV 1))))) [.dat (.tuple (a :: r)), .dat (.str k), .dat (.int (n : Nat))] (.bool (headB (.tuple (a :: r)) k n)) := fun h1 h2 => by
        have e : headB (.tuple (a :: r)) k n = (isiB "tuple" (.tuple (a :: r)) && (((((a :: r).length : Nat) : Int) == ((n : Nat) : Int)) && false)) := by
          rw [h2]
          simp
        rw [e]
        exact pv_andV (pv_isi (pv_get rfl)) fun _ => pv_andV len fun _ => pv_andV_f (pv_isi ix) h1
      cases a with
      | str z =>
        have e : headB (.tuple (.str z :: r)) k n = (isiB "tuple" (.tuple (.str z :: r)) && (((((PyData.str z :: r).length : Nat) : Int) == ((n : Nat) : Int)) && (isiB "str" (.str z) && (z == k)))) := by
          rw [e1]
          rfl
        rw [e]
        exact pv_andV (pv_isi (pv_get rfl)) fun _ => pv_andV len fun _ => pv_andV (pv_isi ix) fun _ => pv_m2 ix (pv_get rfl) (eqD_str z k (fit_str fa).1 hk)
      | _ => exact other rfl rfl
  | _ => exact ws_retv (pv_andV_f (pv_isi (pv_get rfl)) rfl) rfl
theorem p_is_whole (d : PyData) : m_is_whole [d] = some (.ok (.bool (numB d))) := by cases d <;> rfl
/-- a call, asked part by part -/
theorem callB_parts (d : PyData) : callB d = (headB d "call" 3 && (nameB (part 1 d) && namesB 5 (part 2 d))) := by
  cases hb : headB d "call" 3 with
  | false =>
    rw [call_head hb]
    rfl
  | true =>
    obtain ⟨r, rfl, hr⟩ := head_tup hb
    obtain ⟨a, b, rfl⟩ := len2 hr
    rfl
theorem p_l_is_house (d : PyData) (hd : fitD d = true) : m_l_is_house [d] = some (.ok (.bool (houseB d))) := by
  refine fnD_ok rfl ?_
  show Ws g_l_is_house [.dat d, .un] _
  unfold g_l_is_house
  have head : Pv (notT (asB (callE m_has_head (consA (getV 0) (consA (ret (.str "house")) (consA (ret (.int 2)) nilA)))))) [.dat d, .un] (!headB d "house" 2) := pv_not (pv_asB (pv_call (pv_cons (pv_get rfl) (pv_cons (pv_ret _) (pv_cons (pv_ret _) pv_nil))) (p_has_head d "house" 2 hd (by decide +kernel) (by decide))))
  refine ws_seq ?_
  cases hb : headB d "house" 2 with
  | false =>
    refine ws_ifv (b := true) (pv_or_t head (by rw [hb]; rfl)) (fun _ => ws_retv (pv_ret _) ?_) fun h => nomatch h
    show PyData.bool false = PyData.bool (houseB d)
    rw [house_head hb]
  | true =>
    obtain ⟨r, rfl, hr⟩ := head_tup hb
    obtain ⟨a, rfl⟩ := len1 hr
    have fa := (fit_tup hd).1 a (by simp)
    have ix : ∀ {E : En}, E[0]? = some (.dat (.tuple [.str "house", a])) → Pv (ixV 0 (ret (.int 1))) E a := fun {E} h => pv_ixV (by rw [h]; rfl) (pv_ret _) (ix_tup (i := 1) (d := a) rfl)
    cases a with
    | tuple cs =>
      obtain ⟨hf, hl⟩ := fit_tup fa
      have span : Pv (asB (chD leD leD (ret (.int 1)) (calE (c1 lenD) (consA (ixV 0 (ret (.int 1))) nilA)) (ret (.int 5)))) [.dat (.tuple [.str "house", .tuple cs]), .un] (spanB cs 5) :=
        pv_asB (pv_ch (pv_ret _) (pv_calE (pv_cons (ix rfl) pv_nil) rfl) rfl fun _ => ⟨pv_ret _, rfl⟩)
      refine ws_ifv (pv_or_f head (by rw [hb]; rfl) (pv_or_f (pv_not (pv_asB (pv_isi (ix rfl)))) rfl (pv_not span))) (fun hs => ?_) fun hs => ?_
      · refine ws_retv (pv_ret _) ?_
        have hs : spanB cs 5 = false := by simpa using hs
        show PyData.bool false = PyData.bool (true && (spanB cs 5 && cs.all callB && cntB (cs.map nameOf)))
        rw [hs]
        rfl
      · have hs : spanB cs 5 = true := by simpa using hs
        refine ws_nx (ws_seq (ws_for ((pv_itF (ix rfl) rfl (by simp [fitT])).wp ⟨fun i E => (∀ (j : Nat) (c : PyData), j < i → cs[j]? = some c → callB c = true) ∧ ∃ x, E = [.dat (.tuple [.str "house", .tuple cs]), x], ⟨fun j r hj => absurd hj (Nat.not_lt_zero _), _, rfl⟩, ?_, ?_⟩)))
        · rintro i E c hc ⟨hall, x, rfl⟩
          have fc := hf c (List.mem_of_getElem? hc)
          refine ⟨_, rfl, ?_⟩
          have hd1 : Pv (notT (asB (callE m_has_head (consA (getV 1) (consA (ret (.str "call")) (consA (ret (.int 3)) nilA)))))) [.dat (.tuple [.str "house", .tuple cs]), .dat c] (!headB c "call" 3) := pv_not (pv_asB (pv_call (pv_cons (pv_get rfl) (pv_cons (pv_ret _) (pv_cons (pv_ret _) pv_nil))) (p_has_head c "call" 3 fc (by decide +kernel) (by decide))))
          have test : Pv (orT (notT (asB (callE m_has_head (consA (getV 1) (consA (ret (.str "call")) (consA (ret (.int 3)) nilA)))))) (orT (notT (asB (callE m_l_is_name (consA (ixV 1 (ret (.int 1))) nilA)))) (notT (asB (callE m_l_are_names (consA (ixV 1 (ret (.int 2))) (consA (ret (.int 5)) nilA))))))) [.dat (.tuple [.str "house", .tuple cs]), .dat c] (!callB c) := by
            rw [callB_parts, Bool.not_and, Bool.not_and]
            refine pv_or hd1 fun hh => ?_
            have hh : headB c "call" 3 = true := by simpa using hh
            obtain ⟨r, rfl, hr⟩ := head_tup hh
            obtain ⟨a, b, rfl⟩ := len2 hr
            have ff := (fit_tup fc).1
            exact pv_or (pv_not (pv_asB (pv_call (pv_cons (pv_ixV rfl (pv_ret _) (ix_tup (i := 1) (d := a) rfl)) pv_nil) (p_l_is_name a (ff a (by simp)))))) fun _ => pv_not (pv_asB (pv_call (pv_cons (pv_ixV rfl (pv_ret _) (ix_tup (i := 2) (d := b) rfl)) (pv_cons (pv_ret _) pv_nil)) (p_l_are_names b 5 (ff b (by simp)) (by decide))))
          refine ws_ifv test (fun hn => ?_) fun hn => ?_
          · refine ws_retv (pv_ret _) ?_
            show PyData.bool false = PyData.bool (true && (spanB cs 5 && cs.all callB && cntB (cs.map nameOf)))
            rw [all_no hc (by simpa using hn)]
            simp
          · refine ws_nx ⟨fun j r hj hr => ?_, _, rfl⟩
            by_cases e : j = i
            · subst e
              rw [hc] at hr
              cases hr
              simpa using hn
            · exact hall j r (by omega) hr
        · rintro E ⟨hall, x, rfl⟩
          have h2 : cs.all callB = true := all_upto fun i r hr => hall i r (List.getElem?_eq_some_iff.mp hr).1 hr
          refine ws_ret ?_
          rw [wp_m2]
          unfold lenSetE
          rw [wp_bnd, wp_sqF]
          refine wp_map ((pv_itF (ix rfl) rfl (by simp [fitT])).wp ⟨nameOf, fun c hc => ?_, ?_⟩)
          · obtain ⟨x, ds, rfl, _⟩ := call_form (List.all_eq_true.mp h2 c hc)
            exact ⟨_, rfl, (pv_ixV rfl (pv_ret _) (ix_tup (i := 1) rfl)).wp ⟨rfl, rfl⟩⟩
          · rw [wp_ofO]
            refine ⟨_, cnt_strs (calls_names h2) (by rw [List.length_map]; exact span_len hs (by decide)), ?_⟩
            show Wp _ [.dat (.tuple [.str "house", .tuple cs]), .un] _
            refine (pv_calE (z := .int (cs.length : Nat)) (pv_cons (ix rfl) pv_nil) rfl).wp ⟨_, eqD_int _ _, ?_⟩
            show PyData.bool _ = PyData.bool (true && (spanB cs 5 && cs.all callB && cntB (cs.map nameOf)))
            rw [hs, h2]
            unfold cntB
            rw [List.length_map]
            rfl
    | _ => exact ws_ifv (b := true) (pv_or_f head (by rw [hb]; rfl) (pv_or_t (pv_not (pv_asB (pv_isi (ix rfl)))) rfl)) (fun _ => ws_retv (pv_ret _) rfl) fun h => nomatch h
end K19

set_option maxHeartbeats 4000000
namespace K19
open PySem PySem.Spec PyProof.Rows L2 He Sa NdefX RZ
def pairS : SM := (seqS (ifS (orT (notT (asB (isiE "tuple" (getV 3)))) (orT (asB (m2 neD (lenVE 3) (ret (.int 2)))) (orT (notT (asB (isiE "str" (ixV 3 (ret (.int 0)))))) (asB (m2 notInE (ixV 3 (ret (.int 0))) (ixV 2 (ret (.int 2)))))))) (retS (ret (.bool false))) nxS)
  (ifS (orT (notT (asB (callE m_is_whole (consA (ixV 3 (ret (.int 1))) nilA)))) (notT (asB (chD leD ltD (ret (.int 0)) (ixV 3 (ret (.int 1))) (calE (c1 lenD) (consA (ixV 0 (ret (.int 2))) nilA)))))) (retS (ret (.bool false))) nxS))
theorem not_t {b : Bool} (h : (!b) = true) : b = false := by cases b <;> first | rfl | cases h
theorem not_f {b : Bool} (h : (!b) = false) : b = true := by cases b <;> first | rfl | cases h
theorem notIn_tup {x : Str} {ds : List PyData} (hx : PyData.strOk x = true) (h : SeqAt.shaped (.tuple ds) = true) : notInE (.str x) (.tuple ds) = some (.bool (!memS x ds)) := by
  have e : inD (.str x) (.tuple ds) = if SeqAt.shaped (.str x) = true ∧ SeqAt.shaped (.tuple ds) = true then some (ds.any fun z => PyData.eqv z (.str x)) else none := rfl
  unfold notInE
  rw [e, if_pos ⟨str_shaped hx, h⟩]
  rfl
theorem pairS_ok {E : En} {h c p : PyData} {rows : List PyData} {R : Out → Prop} (h0 : E[0]? = some (.dat (.tuple [.str "program", h, .tuple rows]))) (h2 : E[2]? = some (.dat c)) (h3 : E[3]? = some (.dat p)) (hc : callB c = true) (hp : fitD p = true)
    (k1 : pairB c (rows.length : Nat) p = true → R (.nx E)) (k2 : pairB c (rows.length : Nat) p = false → R (.rt (.bool false) E)) : Ws pairS E R := by
  obtain ⟨x, ds, rfl, hn, hm⟩ := call_form hc
  have s3 : slotD E[3]? = some p := by rw [h3]; rfl
  have ixp : ∀ {i : Nat} {ps : List PyData} {q : PyData}, p = .tuple ps → ps[i]? = some q → Pv (ixV 3 (ret (.int (i : Nat)))) E q := fun {i ps q} e hq => pv_ixV (d := p) s3 (pv_ret _) (by rw [e]; exact ix_tup hq)
  have ix2 : Pv (ixV 0 (ret (.int 2))) E (.tuple rows) := pv_ixV (by rw [h0]; rfl) (pv_ret _) (ix_tup (i := 2) rfl)
  have ixc : Pv (ixV 2 (ret (.int 2))) E (.tuple ds) := pv_ixV (by rw [h2]; rfl) (pv_ret _) (ix_tup (i := 2) rfl)
  unfold pairS
  refine ws_seq ?_
  cases p with
  | tuple ps =>
    have start : Pv (notT (asB (isiE "tuple" (getV 3)))) E false := (pv_not (pv_asB (pv_isi (pv_get h3)))).to rfl
    have len : Pv (asB (m2 neD (lenVE 3) (ret (.int 2)))) E (!(((ps.length : Nat) : Int) == 2)) := pv_asB (pv_m2 (pv_len (d := .tuple ps) s3 rfl) (pv_ret _) (neD_int _ _))
    match ps with
    | [a, b] =>
      have ff := (fit_tup hp).1
      have ia : Pv (ixV 3 (ret (.int 0))) E a := ixp (i := 0) rfl rfl
      have ib : Pv (ixV 3 (ret (.int 1))) E b := ixp (i := 1) rfl rfl
      have first : Pv (orT (notT (asB (isiE "tuple" (getV 3)))) (orT (asB (m2 neD (lenVE 3) (ret (.int 2)))) (orT (notT (asB (isiE "str" (ixV 3 (ret (.int 0)))))) (asB (m2 notInE (ixV 3 (ret (.int 0))) (ixV 2 (ret (.int 2)))))))) E (!ansB (.tuple [.str "call", .str x, .tuple ds]) a) := by
        refine pv_or_f start rfl (pv_or_f len rfl ?_)
        cases a with
        | str y => exact pv_or_f (pv_not (pv_asB (pv_isi ia))) rfl (pv_asB (pv_m2 ia ixc (notIn_tup (fit_str (ff (.str y) (by simp))).1 (strs_shaped (names_strsD (namesB_all hm))).1)))
        | _ => exact pv_or_t (pv_not (pv_asB (pv_isi ia))) rfl
      refine ws_ifv first (fun hb => ?_) fun hb => ?_
      · refine ws_retv (pv_ret _) (k2 (pair_no fun a2 j e => ?_))
        cases e
        simpa using hb
      · have hb : ansB (.tuple [.str "call", .str x, .tuple ds]) a = true := by simpa using hb
        cases b with
        | int j =>
          have second : Pv (orT (notT (asB (callE m_is_whole (consA (ixV 3 (ret (.int 1))) nilA)))) (notT (asB (chD leD ltD (ret (.int 0)) (ixV 3 (ret (.int 1))) (calE (c1 lenD) (consA (ixV 0 (ret (.int 2))) nilA)))))) E (!(decide (0 ≤ j) && decide (j < (rows.length : Nat)))) :=
            pv_or_f (pv_not (pv_asB (pv_call (pv_cons ib pv_nil) (p_is_whole _)))) rfl (pv_not (pv_asB (pv_ch (pv_ret _) ib rfl fun _ => ⟨pv_calE (pv_cons ix2 pv_nil) rfl, rfl⟩)))
          have ep : pairB (.tuple [.str "call", .str x, .tuple ds]) (rows.length : Nat) (.tuple [a, .int j]) = (decide (0 ≤ j) && decide (j < (rows.length : Nat))) := by
            show (ansB (.tuple [.str "call", .str x, .tuple ds]) a && _) = _
            rw [hb]
            rfl
          refine ws_nx (ws_ifv second (fun hq => ?_) fun hq => ?_)
          · exact ws_retv (pv_ret _) (k2 (by rw [ep]; exact not_t hq))
          · exact ws_nx (k1 (by rw [ep]; exact not_f hq))
        | _ => exact ws_nx (ws_ifv (b := true) (pv_or_t (pv_not (pv_asB (pv_call (pv_cons ib pv_nil) (p_is_whole _)))) rfl) (fun _ => ws_retv (pv_ret _) (k2 rfl)) fun h => nomatch h)
    | [] => exact ws_ifv (b := true) (pv_or_f start rfl (pv_or_t len rfl)) (fun _ => ws_retv (pv_ret _) (k2 rfl)) fun h => nomatch h
    | [_] => exact ws_ifv (b := true) (pv_or_f start rfl (pv_or_t len rfl)) (fun _ => ws_retv (pv_ret _) (k2 rfl)) fun h => nomatch h
    | a :: b :: e :: r =>
      have z : (!((((a :: b :: e :: r).length : Nat) : Int) == 2)) = true := by
        simp
        omega
      exact ws_ifv (b := true) (pv_or_f start rfl (pv_or_t len z)) (fun _ => ws_retv (pv_ret _) (k2 (pair_no fun a j e => by cases e))) fun h => nomatch h
  | _ => exact ws_ifv (b := true) (pv_or_t (pv_not (pv_asB (pv_isi (pv_get h3)))) rfl) (fun _ => ws_retv (pv_ret _) (k2 rfl)) fun h => nomatch h
theorem zip_all {cs ps : List PyData} {f : PyData × PyData → Bool} (h : ∀ (i : Nat) (c p : PyData), cs[i]? = some c → ps[i]? = some p → f (c, p) = true) : (cs.zip ps).all f = true := List.all_eq_true.mpr fun z hz => by
  obtain ⟨i, hi⟩ := List.getElem?_of_mem hz
  obtain ⟨h1, h2⟩ := List.getElem?_zip_eq_some.mp hi
  exact h i z.1 z.2 h1 h2
theorem zip_no {cs ps : List PyData} {f : PyData × PyData → Bool} {i : Nat} {c p : PyData} (h1 : cs[i]? = some c) (h2 : ps[i]? = some p) (h : f (c, p) = false) : (cs.zip ps).all f = false := by
  cases q : (cs.zip ps).all f with
  | false => rfl
  | true =>
    have := List.all_eq_true.mp q (c, p) (List.mem_of_getElem? (List.getElem?_zip_eq_some.mpr ⟨h1, h2⟩))
    rw [h] at this
    cases this
theorem zip_part {cs ps : List PyData} {i : Nat} {d : PyData} (h : (zipL cs ps)[i]? = some d) : ∃ c p, cs[i]? = some c ∧ ps[i]? = some p ∧ d = .tuple [c, p] := by
  rw [zipL_eq, List.getElem?_map] at h
  cases hz : (cs.zip ps)[i]? with
  | none =>
    rw [hz] at h
    cases h
  | some z =>
    rw [hz] at h
    obtain ⟨h1, h2⟩ := List.getElem?_zip_eq_some.mp hz
    exact ⟨z.1, z.2, h1, h2, (Option.some.inj h).symm⟩
theorem p_l_is_program (d : PyData) (hd : fitD d = true) : m_l_is_program [d] = some (.ok (.bool (progB d))) := by
  refine fnD_ok rfl ?_
  show Ws g_l_is_program [.dat d, .un, .un, .un] _
  unfold g_l_is_program
  have head : Pv (notT (asB (callE m_has_head (consA (getV 0) (consA (ret (.str "program")) (consA (ret (.int 3)) nilA)))))) [.dat d, .un, .un, .un] (!headB d "program" 3) := pv_not (pv_asB (pv_call (pv_cons (pv_get rfl) (pv_cons (pv_ret _) (pv_cons (pv_ret _) pv_nil))) (p_has_head d "program" 3 hd (by decide +kernel) (by decide))))
  refine ws_seq ?_
  cases hb : headB d "program" 3 with
  | false =>
    refine ws_ifv (b := true) (pv_or_t head (by rw [hb]; rfl)) (fun _ => ws_retv (pv_ret _) ?_) fun h => nomatch h
    show PyData.bool false = PyData.bool (progB d)
    rw [prog_head hb]
  | true =>
    obtain ⟨r, rfl, hr⟩ := head_tup hb
    obtain ⟨a, b, rfl⟩ := len2 hr
    have ff := (fit_tup hd).1
    have fa := ff a (by simp)
    have fb := ff b (by simp)
    have ix1 : ∀ {E : En}, E[0]? = some (.dat (.tuple [.str "program", a, b])) → Pv (ixV 0 (ret (.int 1))) E a := fun {E} h => pv_ixV (by rw [h]; rfl) (pv_ret _) (ix_tup (i := 1) (d := a) rfl)
    have ix2 : ∀ {E : En}, E[0]? = some (.dat (.tuple [.str "program", a, b])) → Pv (ixV 0 (ret (.int 2))) E b := fun {E} h => pv_ixV (by rw [h]; rfl) (pv_ret _) (ix_tup (i := 2) (d := b) rfl)
    have house : ∀ {E : En}, E[0]? = some (.dat (.tuple [.str "program", a, b])) → Pv (notT (asB (callE m_l_is_house (consA (ixV 0 (ret (.int 1))) nilA)))) E (!houseB a) := fun {E} h => pv_not (pv_asB (pv_call (pv_cons (ix1 h) pv_nil) (p_l_is_house a fa)))
    have hd0 := fun {g : M Bool} {b : Bool} (h : Pv g _ b) => pv_or_f head (by rw [hb]; rfl) h
    cases hh : houseB a with
    | false =>
      refine ws_ifv (b := true) (hd0 (pv_or_t (house rfl) (by rw [hh]; rfl))) (fun _ => ws_retv (pv_ret _) ?_) fun h => nomatch h
      cases b with
      | tuple rows =>
        show PyData.bool false = PyData.bool (true && (houseB a && _))
        rw [hh]
        rfl
      | _ => rfl
    | true =>
      obtain ⟨cs, rfl, ok⟩ := house_form hh
      cases b with
      | tuple rows =>
        obtain ⟨fr, fl⟩ := fit_tup fb
        refine ws_ifv (hd0 (pv_or_f (house rfl) (by rw [hh]; rfl) (pv_or_f (pv_not (pv_asB (pv_isi (ix2 rfl)))) rfl (pv_asB (pv_m2 (ix2 rfl) (pv_tup pv_nil (Nat.zero_le _)) (eqD_nil rows)))))) (fun he => ?_) fun he => ?_
        · refine ws_retv (pv_ret _) ?_
          show PyData.bool false = PyData.bool (true && (houseB (hs cs) && (!rows.isEmpty && _)))
          rw [hh, he]
          rfl
        · have done : PyData.bool (rows.all (rowB cs (rows.length : Nat))) = PyData.bool (progB (.tuple [.str "program", hs cs, .tuple rows])) := by
            show _ = PyData.bool (true && (houseB (hs cs) && (!rows.isEmpty && rows.all (rowB cs (rows.length : Nat)))))
            rw [hh, he]
            rfl
          refine ws_nx (ws_seq (ws_for ((pv_itF (ix2 rfl) rfl (by simp [fitT])).wp ⟨fun i E => (∀ (j : Nat) (r : PyData), j < i → rows[j]? = some r → rowB cs (rows.length : Nat) r = true) ∧ ∃ x y z, E = [.dat (.tuple [.str "program", hs cs, .tuple rows]), x, y, z],
            ⟨fun j r hj => absurd hj (Nat.not_lt_zero _), _, _, _, rfl⟩, ?_, ?_⟩)))
          · rintro i E row hrow ⟨hall, x, y, z, rfl⟩
            have frow := fr row (List.mem_of_getElem? hrow)
            refine ⟨_, rfl, ws_seq ?_⟩
            show Ws _ [.dat (.tuple [.str "program", hs cs, .tuple rows]), .dat row, y, z] _
            have none : rowB cs (rows.length : Nat) row = false → PyData.bool false = PyData.bool (progB (.tuple [.str "program", hs cs, .tuple rows])) := fun hn => by
              rw [← done, all_no hrow hn]
            have cal : Pv (m2 ixD (ixV 0 (ret (.int 1))) (ret (.int 1))) [.dat (.tuple [.str "program", hs cs, .tuple rows]), .dat row, y, z] (.tuple cs) := pv_m2 (ix1 rfl) (pv_ret _) (ix_tup (i := 1) rfl)
            cases row with
            | tuple ps =>
              have frs := (fit_tup frow).1
              have len : Pv (asB (m2 neD (lenVE 1) (calE (c1 lenD) (consA (m2 ixD (ixV 0 (ret (.int 1))) (ret (.int 1))) nilA)))) [.dat (.tuple [.str "program", hs cs, .tuple rows]), .dat (.tuple ps), y, z] (!(((ps.length : Nat) : Int) == (cs.length : Nat))) := pv_asB (pv_m2 (pv_len (d := .tuple ps) rfl rfl) (pv_calE (pv_cons cal pv_nil) rfl) (neD_int _ _))
              refine ws_ifv (pv_or_f (pv_not (pv_asB (pv_isi (pv_get rfl)))) rfl len) (fun hl => ?_) fun hl => ?_
              · refine ws_retv (pv_ret _) (none ?_)
                have hne : (ps.length == cs.length) = false := by
                  simp at hl ⊢
                  omega
                show (ps.length == cs.length && _) = false
                rw [hne]
                rfl
              · have heq : ps.length = cs.length := by
                  simp at hl
                  omega
                refine ws_nx (ws_for ((pv_zipT (pv_cons cal (pv_cons (pv_get rfl) pv_nil)) (Nat.le_of_lt (Nat.lt_of_lt_of_le (span_len ok.span (by decide)) (by decide)))).wp
                  ⟨fun j E => (∀ (m : Nat) (c p : PyData), m < j → cs[m]? = some c → ps[m]? = some p → pairB c (rows.length : Nat) p = true) ∧ ∃ y z, E = [.dat (.tuple [.str "program", hs cs, .tuple rows]), .dat (.tuple ps), y, z], ⟨fun j r p hj => absurd hj (Nat.not_lt_zero _), _, _, rfl⟩, ?_, ?_⟩))
                · rintro j E d hd ⟨hprev, y, z, rfl⟩
                  obtain ⟨c, p, hc, hp, rfl⟩ := zip_part hd
                  refine ⟨_, rfl, ?_⟩
                  refine pairS_ok (h := hs cs) (c := c) (p := p) (rows := rows) rfl rfl rfl (List.all_eq_true.mp ok.all c (List.mem_of_getElem? hc)) (frs p (List.mem_of_getElem? hp)) (fun hg => ⟨fun m c2 p2 hm hc2 hp2 => ?_, _, _, rfl⟩) fun hg => ?_
                  · by_cases e : m = j
                    · subst e
                      rw [hc] at hc2
                      rw [hp] at hp2
                      cases hc2
                      cases hp2
                      exact hg
                    · exact hprev m c2 p2 (by omega) hc2 hp2
                  · refine none ?_
                    show (ps.length == cs.length && _) = false
                    rw [zip_no hc hp hg, Bool.and_false]
                · rintro E ⟨hprev, y, z, rfl⟩
                  refine ⟨fun j r hj hr => ?_, _, _, _, rfl⟩
                  by_cases e : j = i
                  · subst e
                    rw [hrow] at hr
                    cases hr
                    have hz : ((cs.zip ps).all fun z => pairB z.1 (rows.length : Nat) z.2) = true := zip_all fun m c p hc hp => hprev m c p (by
                      rw [zipL_len]
                      have h1 := (List.getElem?_eq_some_iff.mp hc).1
                      have h2 := (List.getElem?_eq_some_iff.mp hp).1
                      omega) hc hp
                    show (ps.length == cs.length && _) = true
                    rw [heq, hz]
                    simp
                  · exact hall j r (by omega) hr
            | _ => exact ws_ifv (b := true) (pv_or_t (pv_not (pv_asB (pv_isi (pv_get rfl)))) rfl) (fun _ => ws_retv (pv_ret _) (none rfl)) fun h => nomatch h
          · rintro E ⟨hall, x, y, z, rfl⟩
            refine ws_retv (pv_ret _) ?_
            show PyData.bool true = PyData.bool (progB _)
            rw [← done, all_upto fun i r hr => hall i r (List.getElem?_eq_some_iff.mp hr).1 hr]
      | _ => exact ws_ifv (b := true) (hd0 (pv_or_f (house rfl) (by rw [hh]; rfl) (pv_or_t (pv_not (pv_asB (pv_isi (ix2 rfl)))) rfl))) (fun _ => ws_retv (pv_ret _) rfl) fun h => nomatch h
end K19

set_option maxHeartbeats 4000000
namespace K19
open PySem PySem.Spec PyProof.Rows L2 He Sa NdefX RZ
structure ProgOk (cs rows : List PyData) : Prop where
  ok : HouseOk cs
  ne : rows.isEmpty = false
  all : rows.all (rowB cs (rows.length : Nat)) = true
def pr (cs rows : List PyData) : PyData := .tuple [.str "program", hs cs, .tuple rows]
theorem prog_form {d : PyData} (h : progB d = true) : ∃ cs rows, d = pr cs rows ∧ ProgOk cs rows := by
  unfold progB at h
  split at h
  · rename_i k a rows
    rw [Bool.and_eq_true, Bool.and_eq_true, Bool.and_eq_true] at h
    have e : k = "program" := by simpa using h.1
    subst e
    obtain ⟨cs, rfl, ok⟩ := house_form h.2.1
    exact ⟨cs, rows, rfl, ⟨ok, by simpa using h.2.2.1, h.2.2.2⟩⟩
  · cases h
theorem prog_of {cs rows : List PyData} (h : ProgOk cs rows) : progB (pr cs rows) = true := by
  show (("program" == ("program" : Str)) && (houseB (hs cs) && (!rows.isEmpty && rows.all (rowB cs (rows.length : Nat))))) = true
  rw [house_of h.ok, h.ne, h.all]
  rfl
theorem mem_at {x : Str} : ∀ {l : List PyData}, strsD l → memS x l = true → ∃ i : Nat, l[i]? = some (PyData.str x)
  | [], _, h => by simp [memS] at h
  | d :: l, hs, h => by
    obtain ⟨y, rfl, _⟩ := hs d List.mem_cons_self
    have h : (PyData.eqv (.str y) (.str x) || memS x l) = true := h
    cases q : PyData.eqv (.str y) (.str x) with
    | true =>
      have e : y = x := by simpa [PyData.eqv] using q
      subst e
      exact ⟨0, rfl⟩
    | false =>
      rw [q] at h
      obtain ⟨i, hi⟩ := mem_at (fun z hz => hs z (List.mem_cons_of_mem _ hz)) h
      exact ⟨i + 1, hi⟩
/-- one step of a program -/
structure StepAt (cs rows : List PyData) (st : Nat) (w a : PyData) (j : Nat) : Prop where
  lt : j < rows.length
  ex : ∃ i ps, idxO w (cs.map nameOf) = some i ∧ cs[i]?.isSome = true ∧ rows[st]? = some (.tuple ps) ∧ ps[i]? = some (.tuple [a, .int (j : Nat)])
theorem pair_form {c : PyData} {many : Int} {p : PyData} (h : pairB c many p = true) : ∃ a j, p = .tuple [a, .int j] ∧ 0 ≤ j ∧ j < many := by
  unfold pairB at h
  split at h
  · rename_i a j
    rw [Bool.and_eq_true, Bool.and_eq_true, decide_eq_true_eq, decide_eq_true_eq] at h
    exact ⟨a, j, rfl, h.2⟩
  · cases h
theorem step_at {cs rows : List PyData} (h : ProgOk cs rows) {st : Nat} (hst : st < rows.length) {w : PyData} (hw : callNameB cs w = true) : ∃ a j, StepAt cs rows st w a j := by
  cases w with
  | str x =>
    obtain ⟨i, hi⟩ := mem_at h.ok.names hw
    rw [List.getElem?_map] at hi
    cases hc : cs[i]? with
    | none =>
      rw [hc] at hi
      cases hi
    | some c =>
      rw [hc] at hi
      have hn : nameOf c = .str x := Option.some.inj hi
      have hidx := idx_name h.ok hc
      rw [hn] at hidx
      have hr : rows[st]? = some rows[st] := List.getElem?_eq_getElem hst
      have rb := List.all_eq_true.mp h.all _ (List.mem_of_getElem? hr)
      cases hrow : rows[st] with
      | tuple ps =>
        rw [hrow] at rb hr
        have rb : (ps.length == cs.length && (cs.zip ps).all fun z => pairB z.1 (rows.length : Nat) z.2) = true := rb
        rw [Bool.and_eq_true] at rb
        have hl : ps.length = cs.length := by simpa using rb.1
        have il := (List.getElem?_eq_some_iff.mp hc).1
        have hp : ps[i]? = some ps[i] := List.getElem?_eq_getElem (by omega)
        have pb := List.all_eq_true.mp rb.2 (c, ps[i]) (List.mem_of_getElem? (List.getElem?_zip_eq_some.mpr ⟨hc, hp⟩))
        obtain ⟨a, j, e, h0, h1⟩ := pair_form pb
        have e : ps[i] = .tuple [a, .int j] := e
        rw [e] at hp
        refine ⟨a, j.toNat, by omega, i, ps, hidx, by rw [hc]; rfl, hr, ?_⟩
        rw [hp, Int.toNat_of_nonneg h0]
      | _ =>
        rw [hrow] at rb
        cases rb
  | _ => cases hw
/-- the steps of a word from a state on -/
inductive Runs (cs rows : List PyData) : Nat → List PyData → List PyData → Nat → Prop
  | nil (st : Nat) : Runs cs rows st [] [] st
  | snoc {st e j : Nat} {ws hist : List PyData} {w a : PyData} : Runs cs rows st ws hist e → StepAt cs rows e w a j → Runs cs rows st (ws ++ [w]) (hist ++ [.tuple [w, a]]) j
theorem Runs.len {cs rows : List PyData} {st e : Nat} {ws hist : List PyData} (r : Runs cs rows st ws hist e) : hist.length = ws.length := by
  induction r with
  | nil => rfl
  | snoc r s ih => rw [List.length_append, List.length_append, ih]; rfl
theorem Runs.lt {cs rows : List PyData} {st e : Nat} {ws hist : List PyData} (r : Runs cs rows st ws hist e) (h : st < rows.length) : e < rows.length := by
  cases r with
  | nil => exact h
  | snoc r s => exact s.lt
theorem runs_ex {cs rows : List PyData} (h : ProgOk cs rows) {ws : List PyData} (hw : ws.all (callNameB cs) = true) {st : Nat} (hst : st < rows.length) : ∀ i, i ≤ ws.length → ∃ hist e, Runs cs rows st (ws.take i) hist e
  | 0, _ => ⟨[], st, .nil st⟩
  | i + 1, hi => by
    obtain ⟨hist, e, r⟩ := runs_ex h hw hst i (by omega)
    have hx : ws[i]? = some ws[i] := List.getElem?_eq_getElem (by omega)
    obtain ⟨a, j, s⟩ := step_at h (r.lt hst) (List.all_eq_true.mp hw _ (List.mem_of_getElem? hx))
    have e3 : ws.take (i + 1) = ws.take i ++ [ws[i]] := by
      rw [List.take_add_one, hx]
      rfl
    rw [e3]
    exact ⟨_, j, .snoc r s⟩
theorem snoc_inj {a b : List PyData} {x y : PyData} (h : a ++ [x] = b ++ [y]) : a = b ∧ x = y := by
  have := List.append_inj' h rfl
  exact ⟨this.1, by simpa using this.2⟩
theorem StepAt.fn {cs rows : List PyData} {st : Nat} {w a b : PyData} {j k : Nat} (s : StepAt cs rows st w a j) (t : StepAt cs rows st w b k) : a = b ∧ j = k := by
  obtain ⟨i, ps, h1, _, h2, h3⟩ := s.ex
  obtain ⟨i', ps', g1, _, g2, g3⟩ := t.ex
  rw [h1] at g1
  cases g1
  rw [h2] at g2
  cases g2
  rw [h3] at g3
  have e := Option.some.inj g3
  simp only [PyData.tuple.injEq, List.cons.injEq, PyData.int.injEq] at e
  exact ⟨e.1, by omega⟩
theorem Runs.fn {cs rows : List PyData} {st e : Nat} {ws hist : List PyData} (r : Runs cs rows st ws hist e) : ∀ {hist2 : List PyData} {e2 : Nat}, Runs cs rows st ws hist2 e2 → hist = hist2 ∧ e = e2 := by
  induction r with
  | nil =>
    intro hist2 e2 q
    generalize hw : ([] : List PyData) = ws at q
    cases q with
    | nil => exact ⟨rfl, rfl⟩
    | snoc r s => simp at hw
  | snoc r s ih =>
    rename_i e0 j ws0 hist0 w a
    intro hist2 e2 q
    generalize hw : ws0 ++ [w] = ws at q
    cases q with
    | nil => simp at hw
    | snoc r2 s2 =>
      obtain ⟨e1, e2⟩ := snoc_inj hw
      subst e1
      subst e2
      obtain ⟨h1, h2⟩ := ih r2
      subst h1
      subst h2
      obtain ⟨h3, h4⟩ := s.fn s2
      subst h3
      exact ⟨rfl, h4⟩
theorem pv_idxT {E : En} {f g : M PyData} {xs : List PyData} {d : PyData} {i : Nat} (h1 : Pv f E (.tuple xs)) (h2 : Pv g E d) (h : idxO d xs = some i) : Pv (idxE f g) E (.int (i : Nat)) := by
  unfold idxE
  refine pv_bnd h1 (pv_bnd (a := d) h2 ?_)
  unfold Pv
  show ofO ((idxO d xs).map fun j => PyData.int (j : Nat)) E = _
  rw [h]
  rfl
theorem pv_idxL {E : En} {f g : M PyData} {xs : List PyData} {d : PyData} {i : Nat} (h1 : Pv f E (.list xs)) (h2 : Pv g E d) (h : idxO d xs = some i) : Pv (idxE f g) E (.int (i : Nat)) := by
  unfold idxE
  refine pv_bnd h1 (pv_bnd (a := d) h2 ?_)
  unfold Pv
  show ofO ((idxO d xs).map fun j => PyData.int (j : Nat)) E = _
  rw [h]
  rfl
/-- the program's run -/
theorem p_run {cs rows ws hist : List PyData} {e : Nat} (h : ProgOk cs rows) (hw : ws.all (callNameB cs) = true) (hl : ws.length ≤ 100000) (r : Runs cs rows 0 ws hist e) : m_run [pr cs rows, .tuple ws] = some (.ok (.tuple [.tuple hist, .int (e : Nat)])) := by
  have pos : 0 < rows.length := by
    cases rows with
    | nil => exact absurd h.ne (by simp)
    | cons x l => simp
  refine fnD_ok rfl ?_
  show Ws g_run [.dat (pr cs rows), .dat (.tuple ws), .un, .un, .un, .un, .un] _
  unfold g_run
  have ix1 : ∀ {E : En}, E[0]? = some (.dat (pr cs rows)) → Pv (ixV 0 (ret (.int 1))) E (hs cs) := fun {E} h => pv_ixV (by rw [h]; rfl) (pv_ret _) (ix_tup (i := 1) rfl)
  have ix2 : ∀ {E : En}, E[0]? = some (.dat (pr cs rows)) → Pv (ixV 0 (ret (.int 2))) E (.tuple rows) := fun {E} h => pv_ixV (by rw [h]; rfl) (pv_ret _) (ix_tup (i := 2) rfl)
  refine ws_seq (ws_par ?_)
  unfold runR
  rw [wp_bnd]
  refine (pv_call (pv_cons (ix1 rfl) pv_nil) (p_calls_of h.ok)).wp ?_
  rw [wp_bnd]
  unfold runR
  rw [wp_bnd]
  refine (pv_ret _).wp ?_
  rw [wp_bnd]
  unfold runR
  rw [wp_bnd]
  refine (pv_lst pv_nil (Nat.zero_le _)).wp ?_
  rw [wp_bnd]
  unfold runR
  refine (pv_ret _).wp ?_
  rw [wp_ret, wp_ret, wp_ret]
  refine ⟨rfl, ws_seq ?_⟩
  show Ws _ [.dat (pr cs rows), .dat (.tuple ws), .dat (.tuple (cs.map nameOf)), .dat (.int 0), .own [], .un, .un] _
  refine ws_for ((pv_itF (pv_get rfl) rfl (by simp [fitT])).wp ⟨fun i E => ∃ hi ei x y, Runs cs rows 0 (ws.take i) hi ei ∧ E = [.dat (pr cs rows), .dat (.tuple ws), .dat (.tuple (cs.map nameOf)), .dat (.int (ei : Nat)), .own hi, x, y], ⟨[], 0, _, _, .nil 0, rfl⟩, ?_, ?_⟩)
  · rintro i E w hwi ⟨hi, ei, x, y, ri, rfl⟩
    have hcn := List.all_eq_true.mp hw w (List.mem_of_getElem? hwi)
    obtain ⟨a, j, s⟩ := step_at h (ri.lt pos) hcn
    obtain ⟨k, ps, e1, _, e2, e3⟩ := s.ex
    have il := (List.getElem?_eq_some_iff.mp hwi).1
    have hlen := ri.len
    rw [List.length_take] at hlen
    refine ⟨_, rfl, ws_seq (ws_asg ((pv_m2 (pv_m2 (ix2 rfl) (pv_get rfl) (ix_tup e2)) (pv_idxT (pv_get rfl) (pv_get rfl) e1) (ix_tup e3)).wp ⟨_, rfl, ?_⟩))⟩
    refine ws_expr (wp_mut (ds0 := hi) rfl ((pv_cons (pv_tup (pv_cons (pv_get rfl) (pv_cons (pv_get rfl) pv_nil)) two_le) pv_nil).wp ⟨hi, rfl, _, _, app_ok ?_, ?_⟩))
    · exact Nat.lt_of_lt_of_le (show hi.length < 100001 by omega) (by decide)
    · refine ⟨_, j, _, _, ?_, rfl⟩
      rw [List.take_add_one, hwi]
      exact .snoc ri s
  · rintro E ⟨hi, ei, x, y, ri, rfl⟩
    rw [List.take_length] at ri
    obtain ⟨rfl, rfl⟩ := r.fn ri
    exact ws_retv (pv_tup (pv_cons (pv_calQ (pv_lookL rfl) rfl) (pv_cons (pv_get rfl) pv_nil)) two_le) rfl
end K19

set_option maxHeartbeats 4000000
namespace K19
open PySem PySem.Spec PyProof.Rows L2 He Sa NdefX RZ
theorem p_need_program (d : PyData) (hd : fitD d = true) : m_need_program [d] = if progB d = true then some (.ok .none) else some (.ex "BadProgram" none) := by
  have test : Pv (notT (asB (callE m_is_program (consA (getV 0) nilA)))) [.dat d] (!progB d) := pv_not (pv_asB (pv_call (pv_cons (pv_get rfl) pv_nil) (p_is_program d hd)))
  cases hb : progB d with
  | true =>
    rw [if_pos rfl]
    refine fnD_ok rfl ?_
    exact ws_ifv (b := false) (test.to (by rw [hb]; rfl)) (fun h => nomatch h) fun _ => ws_nx rfl
  | false =>
    rw [if_neg Bool.false_ne_true]
    refine fnD_ex rfl ?_
    exact ws_ifv (b := true) (test.to (by rw [hb]; rfl)) (fun _ => ws_raise ⟨rfl, rfl⟩) fun h => nomatch h
theorem p_need_word {cs : List PyData} (h : HouseOk cs) (d : PyData) (hd : fitD d = true) : m_need_word [hs cs, d] = if wordB cs d = true then some (.ok .none) else some (.ex "BadWord" none) := by
  have test : Pv (notT (asB (callE m_is_word_of (consA (getV 0) (consA (getV 1) nilA))))) [.dat (hs cs), .dat d] (!wordB cs d) := pv_not (pv_asB (pv_call (pv_cons (pv_get rfl) (pv_cons (pv_get rfl) pv_nil)) (p_is_word_of h hd)))
  cases hb : wordB cs d with
  | true =>
    rw [if_pos rfl]
    refine fnD_ok rfl ?_
    exact ws_ifv (b := false) (test.to (by rw [hb]; rfl)) (fun h => nomatch h) fun _ => ws_nx rfl
  | false =>
    rw [if_neg Bool.false_ne_true]
    refine fnD_ex rfl ?_
    exact ws_ifv (b := true) (test.to (by rw [hb]; rfl)) (fun _ => ws_raise ⟨rfl, rfl⟩) fun h => nomatch h
/-- what history, answers, state_behind do on no program, on no word, else -/
theorem hist_badP {p d : PyData} (hp : fitD p = true) (hb : progB p = false) : m_history [p, d] = some (.ex "BadProgram" none) ∧ m_state_behind [p, d] = some (.ex "BadProgram" none) := by
  have need : m_need_program [p] = some (.ex "BadProgram" none) := by
    rw [p_need_program p hp, hb]
    rfl
  constructor
  · refine fnD_ex rfl ?_
    exact ws_seq (ws_exprX (xv_callX (pv_cons (pv_get rfl) pv_nil) need) ⟨rfl, rfl⟩)
  · refine fnD_ex rfl ?_
    exact ws_seq (ws_exprX (xv_callX (pv_cons (pv_get rfl) pv_nil) need) ⟨rfl, rfl⟩)
theorem ans_bad {p d : PyData} {c : Str} (h : m_history [p, d] = some (.ex c none)) : m_answers [p, d] = some (.ex c none) := by
  refine fnD_ex rfl ?_
  show Ws g_answers [.dat p, .dat d, .un, .un] _
  unfold g_answers
  have e : Xv (callX m_history (consA (getV 0) (consA (getV 1) nilA))) [.dat p, .dat d, .un, .un] c none := xv_callX (pv_cons (pv_get rfl) (pv_cons (pv_get rfl) pv_nil)) h
  exact ws_retX (xv_bnd (xv_bnd (xv_bnd (xv_bnd e)))) ⟨rfl, rfl⟩
theorem hist_badW {cs rows : List PyData} {d : PyData} (h : ProgOk cs rows) (hp : fitD (pr cs rows) = true) (hd : fitD d = true) (hb : wordB cs d = false) : m_history [pr cs rows, d] = some (.ex "BadWord" none) ∧ m_state_behind [pr cs rows, d] = some (.ex "BadWord" none) := by
  have need : m_need_program [pr cs rows] = some (.ok .none) := by
    rw [p_need_program _ hp, prog_of h]
    rfl
  have need2 : m_need_word [hs cs, d] = some (.ex "BadWord" none) := by
    rw [p_need_word h.ok d hd, hb]
    rfl
  have ix1 : Pv (ixV 0 (ret (.int 1))) [.dat (pr cs rows), .dat d] (hs cs) := pv_ixV rfl (pv_ret _) (ix_tup (i := 1) rfl)
  constructor
  · refine fnD_ex rfl ?_
    exact ws_seq (ws_exprv (pv_callX (pv_cons (pv_get rfl) pv_nil) need) (ws_seq (ws_exprX (xv_callX (pv_cons ix1 (pv_cons (pv_get rfl) pv_nil)) need2) ⟨rfl, rfl⟩)))
  · refine fnD_ex rfl ?_
    exact ws_seq (ws_exprv (pv_callX (pv_cons (pv_get rfl) pv_nil) need) (ws_seq (ws_exprX (xv_callX (pv_cons ix1 (pv_cons (pv_get rfl) pv_nil)) need2) ⟨rfl, rfl⟩)))
theorem p_history {cs rows ws hist : List PyData} {e : Nat} (h : ProgOk cs rows) (hp : fitD (pr cs rows) = true) (hd : fitD (.tuple ws) = true) (hw : ws.all (callNameB cs) = true) (r : Runs cs rows 0 ws hist e) :
    m_history [pr cs rows, .tuple ws] = some (.ok (.tuple hist)) ∧ m_state_behind [pr cs rows, .tuple ws] = some (.ok (.int (e : Nat))) := by
  have need : m_need_program [pr cs rows] = some (.ok .none) := by
    rw [p_need_program _ hp, prog_of h]
    rfl
  have need2 : m_need_word [hs cs, .tuple ws] = some (.ok .none) := by
    rw [p_need_word h.ok _ hd]
    show (if ws.all (callNameB cs) = true then _ else _) = _
    rw [hw]
    rfl
  have ix1 : Pv (ixV 0 (ret (.int 1))) [.dat (pr cs rows), .dat (.tuple ws)] (hs cs) := pv_ixV rfl (pv_ret _) (ix_tup (i := 1) rfl)
  have run := p_run h hw (fit_tup hd).2 r
  constructor
  · refine fnD_ok rfl ?_
    exact ws_seq (ws_exprv (pv_callX (pv_cons (pv_get rfl) pv_nil) need) (ws_seq (ws_exprv (pv_callX (pv_cons ix1 (pv_cons (pv_get rfl) pv_nil)) need2) (ws_retv (pv_m2 (pv_call (pv_cons (pv_get rfl) (pv_cons (pv_get rfl) pv_nil)) run) (pv_ret _) (ix_tup (i := 0) (d := .tuple hist) rfl)) rfl))))
  · refine fnD_ok rfl ?_
    exact ws_seq (ws_exprv (pv_callX (pv_cons (pv_get rfl) pv_nil) need) (ws_seq (ws_exprv (pv_callX (pv_cons ix1 (pv_cons (pv_get rfl) pv_nil)) need2) (ws_retv (pv_m2 (pv_call (pv_cons (pv_get rfl) (pv_cons (pv_get rfl) pv_nil)) run) (pv_ret _) (ix_tup (i := 1) (d := .int (e : Nat)) rfl)) rfl))))
theorem Runs.pairs {cs rows : List PyData} {st e : Nat} {ws hist : List PyData} (r : Runs cs rows st ws hist e) : ∀ d ∈ hist, ∃ w a, d = .tuple [w, a] := by
  induction r with
  | nil => exact fun d h => nomatch h
  | snoc r s ih =>
    intro d hd
    rcases List.mem_append.mp hd with hd | hd
    · exact ih d hd
    · rw [List.mem_singleton] at hd
      exact ⟨_, _, hd⟩
theorem p_answers {cs rows ws hist : List PyData} {e : Nat} (r : Runs cs rows 0 ws hist e) (h : m_history [pr cs rows, .tuple ws] = some (.ok (.tuple hist))) : m_answers [pr cs rows, .tuple ws] = some (.ok (.tuple (hist.map (part 1)))) := by
  refine fnD_ok rfl ?_
  show Ws g_answers [.dat (pr cs rows), .dat (.tuple ws), .un, .un] _
  unfold g_answers
  refine ws_retv (pv_calQ (pv_sqF (pv_map (part 1) rfl (pv_itF (pv_callX (pv_cons (pv_get rfl) (pv_cons (pv_get rfl) pv_nil)) h) rfl ?_) fun d hd => ?_)) rfl) rfl
  · refine List.all_eq_true.mpr fun d hd => ?_
    obtain ⟨w, a, rfl⟩ := r.pairs d hd
    rfl
  · obtain ⟨w, a, rfl⟩ := r.pairs d hd
    exact ⟨_, rfl, rfl, pv_get rfl⟩
/-! the law's own steps -/
theorem p_calls {cs : List PyData} (h : HouseOk cs) : m_calls [hs cs] = some (.ok (.list (cs.map nameOf))) := by
  refine fnD_ok rfl ?_
  show Ws g_calls [.dat (hs cs), .un] _
  unfold g_calls
  refine ws_retv (pv_frz (pv_map nameOf rfl (pv_itF (pv_ixV rfl (pv_ret _) (ix_tup (i := 1) (d := .tuple cs) rfl)) rfl (by simp [fitT])) fun c hc => ?_)) rfl
  obtain ⟨x, ds, rfl, _⟩ := h.call hc
  exact ⟨_, rfl, rfl, pv_ixV rfl (pv_ret _) (ix_tup (i := 1) rfl)⟩
theorem p_answered {cs rows ws hist : List PyData} {e : Nat} (h : ProgOk cs rows) (hw : ws.all (callNameB cs) = true) (hl : ws.length ≤ 100000) (r : Runs cs rows 0 ws hist e) : m_answered [pr cs rows, .tuple ws] = some (.ok (.tuple hist)) := by
  have pos : 0 < rows.length := by
    cases rows with
    | nil => exact absurd h.ne (by simp)
    | cons x l => simp
  refine fnD_ok rfl ?_
  show Ws g_answered [.dat (pr cs rows), .dat (.tuple ws), .un, .un, .un, .un, .un] _
  unfold g_answered
  have ix1 : ∀ {E : En}, E[0]? = some (.dat (pr cs rows)) → Pv (ixV 0 (ret (.int 1))) E (hs cs) := fun {E} h => pv_ixV (by rw [h]; rfl) (pv_ret _) (ix_tup (i := 1) rfl)
  have ix2 : ∀ {E : En}, E[0]? = some (.dat (pr cs rows)) → Pv (ixV 0 (ret (.int 2))) E (.tuple rows) := fun {E} h => pv_ixV (by rw [h]; rfl) (pv_ret _) (ix_tup (i := 2) rfl)
  refine ws_seq (ws_par ?_)
  unfold runR
  rw [wp_bnd]
  refine (pv_ret _).wp ?_
  rw [wp_bnd]
  unfold runR
  rw [wp_bnd]
  refine (pv_lst pv_nil (Nat.zero_le _)).wp ?_
  rw [wp_bnd]
  unfold runR
  rw [wp_bnd]
  refine (pv_call (pv_cons (ix1 rfl) pv_nil) (p_calls h.ok)).wp ?_
  rw [wp_bnd]
  unfold runR
  refine (pv_ret _).wp ?_
  rw [wp_ret, wp_ret, wp_ret]
  refine ⟨rfl, ws_seq ?_⟩
  show Ws _ [.dat (pr cs rows), .dat (.tuple ws), .dat (.int 0), .own [], .dat (.list (cs.map nameOf)), .un, .un] _
  refine ws_for ((pv_itF (pv_get rfl) rfl (by simp [fitT])).wp ⟨fun i E => ∃ hi ei x y, Runs cs rows 0 (ws.take i) hi ei ∧ E = [.dat (pr cs rows), .dat (.tuple ws), .dat (.int (ei : Nat)), .own hi, .dat (.list (cs.map nameOf)), x, y], ⟨[], 0, _, _, .nil 0, rfl⟩, ?_, ?_⟩)
  · rintro i E w hwi ⟨hi, ei, x, y, ri, rfl⟩
    have hcn := List.all_eq_true.mp hw w (List.mem_of_getElem? hwi)
    obtain ⟨a, j, s⟩ := step_at h (ri.lt pos) hcn
    obtain ⟨k, ps, e1, _, e2, e3⟩ := s.ex
    have il := (List.getElem?_eq_some_iff.mp hwi).1
    have hlen := ri.len
    rw [List.length_take] at hlen
    refine ⟨_, rfl, ws_seq (ws_asg ((pv_m2 (pv_m2 (ix2 rfl) (pv_get rfl) (ix_tup e2)) (pv_idxL (pv_get rfl) (pv_get rfl) e1) (ix_tup e3)).wp ⟨_, rfl, ?_⟩))⟩
    refine ws_expr (wp_mut (ds0 := hi) rfl ((pv_cons (pv_tup (pv_cons (pv_get rfl) (pv_cons (pv_get rfl) pv_nil)) two_le) pv_nil).wp ⟨hi, rfl, _, _, app_ok ?_, ?_⟩))
    · exact Nat.lt_of_lt_of_le (show hi.length < 100001 by omega) (by decide)
    · refine ⟨_, j, _, _, ?_, rfl⟩
      rw [List.take_add_one, hwi]
      exact .snoc ri s
  · rintro E ⟨hi, ei, x, y, ri, rfl⟩
    rw [List.take_length] at ri
    obtain ⟨rfl, rfl⟩ := r.fn ri
    exact ws_retv (pv_calQ (pv_lookL rfl) rfl) rfl
theorem p_state {cs rows ws hist : List PyData} {e : Nat} (h : ProgOk cs rows) (hw : ws.all (callNameB cs) = true) (r : Runs cs rows 0 ws hist e) : m_state [pr cs rows, .tuple ws] = some (.ok (.int (e : Nat))) := by
  have pos : 0 < rows.length := by
    cases rows with
    | nil => exact absurd h.ne (by simp)
    | cons x l => simp
  refine fnD_ok rfl ?_
  show Ws g_state [.dat (pr cs rows), .dat (.tuple ws), .un, .un] _
  unfold g_state
  have ix1 : ∀ {E : En}, E[0]? = some (.dat (pr cs rows)) → Pv (ixV 0 (ret (.int 1))) E (hs cs) := fun {E} h => pv_ixV (by rw [h]; rfl) (pv_ret _) (ix_tup (i := 1) rfl)
  have ix2 : ∀ {E : En}, E[0]? = some (.dat (pr cs rows)) → Pv (ixV 0 (ret (.int 2))) E (.tuple rows) := fun {E} h => pv_ixV (by rw [h]; rfl) (pv_ret _) (ix_tup (i := 2) rfl)
  refine ws_seq (ws_asg ((pv_ret _).wp ⟨_, rfl, ?_⟩))
  refine ws_seq (ws_for ((pv_itF (pv_get rfl) rfl (by simp [fitT])).wp ⟨fun i E => ∃ hi ei x, Runs cs rows 0 (ws.take i) hi ei ∧ E = [.dat (pr cs rows), .dat (.tuple ws), .dat (.int (ei : Nat)), x], ⟨[], 0, _, .nil 0, rfl⟩, ?_, ?_⟩))
  · rintro i E w hwi ⟨hi, ei, x, ri, rfl⟩
    have hcn := List.all_eq_true.mp hw w (List.mem_of_getElem? hwi)
    obtain ⟨a, j, s⟩ := step_at h (ri.lt pos) hcn
    obtain ⟨k, ps, e1, _, e2, e3⟩ := s.ex
    refine ⟨_, rfl, ws_asg ((pv_m2 (pv_m2 (pv_m2 (ix2 rfl) (pv_get rfl) (ix_tup e2)) (pv_idxL (pv_call (pv_cons (ix1 rfl) pv_nil) (p_calls h.ok)) (pv_get rfl) e1) (ix_tup e3)) (pv_ret _) (ix_tup (i := 1) rfl)).wp ⟨_, rfl, ?_⟩)⟩
    refine ⟨hi ++ [.tuple [w, a]], j, _, ?_, rfl⟩
    rw [List.take_add_one, hwi]
    exact .snoc ri s
  · rintro E ⟨hi, ei, x, ri, rfl⟩
    rw [List.take_length] at ri
    obtain ⟨rfl, rfl⟩ := r.fn ri
    exact ws_retv (pv_get rfl) rfl
end K19

set_option maxHeartbeats 4000000
/-! The data layer: what drawn things are like; the source's turn is counted. -/
namespace Sa
open PySem PySem.Spec PyProof.Rows L2 He NdefX RZ
abbrev DrawF := DrA → DrS → List PyData → Option (PyData × DrS)
def Dk (n : Nat) (s : DrS) : Prop := (∀ x ∈ s.cells, 0 ≤ x ∧ x < 2147483629) ∧ 0 ≤ s.turn ∧ s.turn ≤ n
theorem Dk.mono {n m : Nat} {s : DrS} (h : Dk n s) (hm : n ≤ m) : Dk m s := ⟨h.1, h.2.1, by have := h.2.2; omega⟩
theorem Dk.ok {n : Nat} {s : DrS} (h : Dk n s) (hn : n < 1000000000000) : DrOk s = true := by
  unfold DrOk
  rw [Bool.and_eq_true, Bool.and_eq_true, decide_eq_true_eq, decide_eq_true_eq]
  refine ⟨List.all_eq_true.mpr fun x hx => ?_, h.2.1, by have := h.2.2; omega⟩
  rw [Bool.and_eq_true, decide_eq_true_eq, decide_eq_true_eq]
  exact h.1 x hx
theorem Dk.take {n : Nat} {s : DrS} (h : Dk n s) (m : Int) : Dk (n + 1) (takeS s m) := by
  obtain ⟨h1, h2, h3⟩ := h
  unfold takeS fillS
  split
  · cases s.wide with
    | nil => exact ⟨h1, by show 0 ≤ s.turn + 1; omega, by show s.turn + 1 ≤ ((n + 1 : Nat) : Int); omega⟩
    | cons x xs => exact ⟨h1, h2, by show s.turn ≤ ((n + 1 : Nat) : Int); omega⟩
  · exact ⟨h1, h2, by show s.turn ≤ ((n + 1 : Nat) : Int); omega⟩
/-- with at most c draws: what comes is as C says -/
def Spec (m : DrawF) (ds : List PyData) (c : Nat) (C : PyData → Prop) : Prop := ∀ p n s, Dk n s → n + c < 1000000000000 → ∃ d s', m p s ds = some (d, s') ∧ C d ∧ Dk (n + c) s'
theorem Spec.imp {m : DrawF} {ds : List PyData} {c : Nat} {C C' : PyData → Prop} (h : Spec m ds c C) (k : ∀ d, C d → C' d) : Spec m ds c C' := fun p n s hd hn => let ⟨d, s', e, q, r⟩ := h p n s hd hn; ⟨d, s', e, k d q, r⟩
theorem Spec.more {m : DrawF} {ds : List PyData} {c c' : Nat} {C : PyData → Prop} (h : Spec m ds c C) (hc : c ≤ c') : Spec m ds c' C := fun p n s hd hn => let ⟨d, s', e, q, r⟩ := h p n s hd (by omega); ⟨d, s', e, q, r.mono (by omega)⟩
theorem take_spec (m : Nat) (h0 : 0 < m) (h1 : m < 1073741824) : Spec takeM [.int (m : Nat)] 1 fun d => ∃ k : Nat, d = .int (k : Nat) ∧ k < m := fun p n s hd hn => by
  refine ⟨_, _, if_pos ⟨⟨by omega, by omega⟩, hd.ok (by omega)⟩, ?_, hd.take _⟩
  have a := Int.fmod_nonneg_of_pos (fillS s).rest (b := (m : Int)) (by omega)
  have b := Int.fmod_lt_of_pos (fillS s).rest (b := (m : Int)) (by omega)
  refine ⟨(takeV s (m : Nat)).toNat, ?_, ?_⟩
  · rw [Int.toNat_of_nonneg (show 0 ≤ takeV s (m : Nat) from a)]
  · have : takeV s (m : Nat) < (m : Nat) := b
    have : 0 ≤ takeV s (m : Nat) := a
    omega
theorem wp_draw {m : DrawF} {E : En} {i n c : Nat} {p : DrA} {s : DrS} {f : M (List PyData)} {ds : List PyData} {C : PyData → Prop} {Q : PyData → En → Prop} (h0 : E[i]? = some (.drw p s)) (ha : Pv f E ds) (hs : Spec m ds c C) (hd : Dk n s) (hn : n + c < 1000000000000)
    (k : ∀ d s', C d → Dk (n + c) s' → Q d (E.set i (.drw p s'))) : Wp (callW m i f) E Q := by
  obtain ⟨d, s', e, q, r⟩ := hs p n s hd hn
  exact wp_callW h0 (ha.wp ⟨p, s, h0, d, s', e, k d s' q r⟩)
theorem drw_at {p : DrA} {s : DrS} {E : En} : drwAt p (.drw p s :: E) = some s := by
  unfold drwAt
  simp
theorem fnW_spec {g : SM} {k np c : Nat} {ds : List PyData} {C : PyData → Prop} (hl : ds.length + 1 = np) (h : ∀ p n s, Dk n s → n + c < 1000000000000 → Ws g (enOf k (.drw p s :: ds.map .dat)) fun o => match o with
    | .rt z E => ∃ s' E', E = .drw p s' :: E' ∧ C z ∧ Dk (n + c) s'
    | _ => False) : Spec (fnW g k np) ds c C := fun p n s hd hn => by
  obtain ⟨d, s', e, q, r⟩ := fnW_ok (C := fun d s' => C d ∧ Dk (n + c) s') hl ((h p n s hd hn).imp fun o ho => by
    cases o with
    | rt z E =>
      obtain ⟨s', E', rfl, q⟩ := ho
      exact ⟨s', drw_at, q⟩
    | _ => exact ho.elim)
  exact ⟨d, s', e, q, r⟩
theorem at_lst {ds : List PyData} {i : Nat} {d : PyData} (h : ds[i]? = some d) : ixD (.list ds) (.int (i : Nat)) = some d := by
  have := ix_tup h
  exact this
end Sa

set_option maxHeartbeats 4000000
namespace K19
open PySem PySem.Spec PyProof.Rows L2 He Sa NdefX RZ
theorem pick_spec {ds : List PyData} (h0 : ds ≠ []) (h1 : ds.length < 1073741824) : Spec m_pick [.list ds] 1 (· ∈ ds) := by
  refine fnW_spec rfl fun p n s hd hn => ?_
  show Ws g_pick [.drw p s, .dat (.list ds)] _
  unfold g_pick
  refine ws_ret ?_
  rw [wp_ixV]
  refine ⟨rfl, wp_draw (C := fun d => ∃ k : Nat, d = .int (k : Nat) ∧ k < ds.length) rfl (pv_cons (pv_len (d := .list ds) rfl rfl) pv_nil) (take_spec ds.length (List.length_pos_iff.mpr h0) h1) hd hn fun d s' ⟨k, e, hk⟩ hd' => ?_⟩
  subst e
  exact ⟨.list ds, rfl, ds[k], at_lst (List.getElem?_eq_getElem hk), s', _, rfl, List.getElem_mem hk, hd'⟩
theorem neD_nilL {xs : List PyData} (h : strsD xs) : neD (.list xs) (.list []) = some (.bool (!xs.isEmpty)) := by
  unfold neD
  rw [if_pos ⟨(strs_shaped h).2, by simp [SeqAt.shaped, PyData.canLay0, PyData.depth, PyData.canLayAll0, PyData.depthAll]⟩]
  cases xs <;> rfl
theorem perm_erase {α : Type} : ∀ {l : List α} {k : Nat} {x : α}, l[k]? = some x → (x :: l.eraseIdx k).Perm l
  | y :: l, 0, x, h => by
    cases h
    exact .refl _
  | y :: l, k + 1, x, h => by
    rw [List.getElem?_cons_succ] at h
    exact (List.Perm.swap y x _).trans ((perm_erase h).cons y)
theorem pop_ok {ds : List PyData} {k : Nat} (hk : k < ds.length) (hl : ds.length ≤ 100000) : popM ds [.int (k : Nat)] = some (ds[k], ds.eraseIdx k) := by
  have e : seqIndex? ((k : Nat) : Int) ds.length = some k := by
    unfold seqIndex?
    simp
    omega
  have b : -(2 ^ 63) ≤ ((k : Nat) : Int) ∧ ((k : Nat) : Int) < 2 ^ 63 := ⟨by omega, by omega⟩
  unfold popM
  simp only [e]
  rw [if_pos b]
  simp [hk]
theorem shuffled_spec {ds : List PyData} (hs : strsD ds) (hl : ds.length ≤ 100000) : Spec m_shuffled [.list ds] ds.length fun d => ∃ es, d = .list es ∧ es.Perm ds := by
  refine fnW_spec rfl fun p n s hd hn => ?_
  show Ws g_shuffled [.drw p s, .dat (.list ds), .un, .un] _
  unfold g_shuffled
  refine ws_seq (ws_par ?_)
  have look : Pv (listQ (lookV 1)) [.drw p s, .dat (.list ds), .un, .un] ds := pv_bnd (a := (false, ds)) rfl rfl
  unfold runR
  rw [wp_bnd]
  refine look.wp ?_
  rw [wp_bnd]
  unfold runR
  rw [wp_bnd]
  refine (pv_lst pv_nil (Nat.zero_le _)).wp ?_
  rw [wp_bnd]
  unfold runR
  refine (pv_ret _).wp ?_
  rw [wp_ret, wp_ret]
  refine ⟨rfl, ws_seq ?_⟩
  show Ws _ [.drw p s, .dat (.list ds), .own ds, .own []] _
  refine ws_whl (fun m E => ∃ left found s1, E = [.drw p s1, .dat (.list ds), .own left, .own found] ∧ (left ++ found).Perm ds ∧ m = left.length ∧ Dk (n + found.length) s1) ds.length ⟨ds, [], s, rfl, by rw [List.append_nil], rfl, hd⟩ ?_
  rintro m E ⟨left, found, s1, rfl, hp, rfl, hd1⟩
  have hstr : strsD left := fun d hd => hs d (hp.mem_iff.mp (List.mem_append_left _ hd))
  have hlen : left.length + found.length = ds.length := by
    rw [← List.length_append]
    exact hp.length_eq
  have test : Pv (asB (m2V neD 2 (frzE (lstE nilA)))) [.drw p s1, .dat (.list ds), .own left, .own found] (!left.isEmpty) := pv_asB (pv_m2V (d := .list left) rfl (pv_frz (pv_lst pv_nil (Nat.zero_le _))) (neD_nilL hstr))
  refine test.wp ?_
  cases left with
  | nil =>
    rw [if_neg (by simp)]
    refine ws_ret ?_
    rw [wp_getV]
    refine ⟨s1, _, rfl, ⟨found, rfl, hp⟩, hd1.mono ?_⟩
    simp at hlen
    omega
  | cons x l =>
    rw [if_pos (by simp)]
    refine ws_expr (wp_mut (ds0 := found) rfl ?_)
    rw [wp_cons]
    refine wp_mut (ds0 := x :: l) rfl ?_
    rw [wp_cons]
    refine wp_draw (C := fun d => ∃ k : Nat, d = .int (k : Nat) ∧ k < (x :: l).length) (n := n + found.length) rfl (pv_cons (pv_len (d := .list (x :: l)) rfl rfl) pv_nil) (take_spec (x :: l).length (by simp) (by simp at hlen ⊢; omega)) hd1 (by simp at hlen; omega) fun d s' ⟨k, e, hk⟩ hd' => ?_
    subst e
    rw [wp_nil]
    refine ⟨x :: l, rfl, _, _, pop_ok hk (by simp at hlen ⊢; omega), ?_⟩
    rw [wp_nil]
    refine ⟨found, rfl, _, _, app_ok (Nat.lt_of_lt_of_le (show found.length < 100001 by simp at hlen; omega) (by decide)), ?_⟩
    have hk2 : (x :: l)[k]? = some (x :: l)[k] := List.getElem?_eq_getElem hk
    refine ⟨((x :: l).eraseIdx k).length, ?_, (x :: l).eraseIdx k, found ++ [(x :: l)[k]], s', rfl, ?_, rfl, ?_⟩
    · rw [List.length_eraseIdx_of_lt hk]
      simp
    · have h2 := perm_erase hk2
      have h3 : ((x :: l).eraseIdx k ++ (found ++ [(x :: l)[k]])).Perm ((x :: l)[k] :: (x :: l).eraseIdx k ++ found) := by
        rw [← List.append_assoc]
        exact (List.perm_append_comm).trans (by simp)
      exact h3.trans ((h2.append_right found).trans hp)
    · rw [List.length_append]
      exact hd'.mono (by simp; omega)
end K19

set_option maxHeartbeats 4000000
namespace K19
open PySem PySem.Spec PyProof.Rows L2 He Sa NdefX RZ
theorem pv_rng1 {E : En} {f : M (List PyData)} {n : Nat} (h : Pv f E [.int (n : Nat)]) (hn : n ≤ 100000) : Pv (rng1 f) E ((List.range n).map fun k => .int (k : Nat)) := by
  unfold rng1
  refine pv_bnd h ?_
  unfold Pv
  have e : rngL 0 (n : Nat) = (List.range n).map fun k => PyData.int (k : Nat) := by
    unfold rngL
    simp
  have b : (-(2 ^ 62) ≤ ((n : Nat) : Int) ∧ ((n : Nat) : Int) < 2 ^ 62) ∧ ((n : Nat) : Int).toNat ≤ sizeLine := ⟨⟨by omega, by omega⟩, size_le (by rw [Int.toNat_natCast]; exact hn)⟩
  dsimp only
  rw [if_pos b, e]
  rfl
def abc : List Nat := smallS.cps.toList
def sufs : List Str := ["", "", "q", "zz"]
def nameJ (j : Nat) (suf : Str) : Str := ⟨#[abc.getD j 0]⟩ ++ suf
theorem nameJ_ok : (List.range 26).all (fun j => sufs.all fun s => nameB (.str (nameJ j s)) && (decide ((nameJ j s).length ≤ 3) && ((nameJ j s).cps.toList.headD 0 == abc.getD j 0))) = true := by decide +kernel
theorem abc_nodup : abc.Nodup := by decide +kernel
theorem abc_len : abc.length = 26 := by decide +kernel
def nameAt (j : Nat) (d : PyData) : Prop := ∃ s, s ∈ sufs ∧ d = .str (nameJ j s)
theorem nameJ_is {j : Nat} (hj : j < 26) {s : Str} (hs : s ∈ sufs) : nameB (.str (nameJ j s)) = true ∧ (nameJ j s).length ≤ 3 ∧ (nameJ j s).cps.toList.headD 0 = abc.getD j 0 := by
  have h := List.all_eq_true.mp nameJ_ok j (List.mem_range.mpr hj)
  have h2 := List.all_eq_true.mp h s hs
  rw [Bool.and_eq_true, Bool.and_eq_true, decide_eq_true_eq] at h2
  exact ⟨h2.1, h2.2.1, by simpa using h2.2.2⟩
theorem nameAt_ne {i j : Nat} (hi : i < 26) (hj : j < 26) (ne : i ≠ j) {a b : PyData} (ha : nameAt i a) (hb : nameAt j b) : keyF a ≠ keyF b := by
  obtain ⟨s, hs, rfl⟩ := ha
  obtain ⟨t, ht, rfl⟩ := hb
  intro e
  have e : nameJ i s = nameJ j t := by simpa [keyF] using e
  have h1 := (nameJ_is hi hs).2.2
  have h2 := (nameJ_is hj ht).2.2
  rw [e, h2] at h1
  have li : i < abc.length := by rw [abc_len]; exact hi
  have lj : j < abc.length := by rw [abc_len]; exact hj
  rw [List.getD_eq_getElem?_getD, List.getD_eq_getElem?_getD, List.getElem?_eq_getElem li, List.getElem?_eq_getElem lj] at h1
  have h1 : abc[j] = abc[i] := by simpa using h1
  rcases Nat.lt_or_gt_of_ne ne with h | h
  · exact List.pairwise_iff_getElem.mp abc_nodup i j li lj h h1.symm
  · exact List.pairwise_iff_getElem.mp abc_nodup j i lj li h h1
structure NamesOk (es : List PyData) : Prop where
  all : es.all nameB = true
  nd : (es.map keyF).Nodup
  few : ∀ d ∈ es, ∀ x, d = .str x → x.length ≤ 3
theorem NamesOk.perm {es fs : List PyData} (h : NamesOk es) (p : fs.Perm es) : NamesOk fs :=
  ⟨List.all_eq_true.mpr fun d hd => List.all_eq_true.mp h.all d (p.mem_iff.mp hd), (p.map keyF).nodup_iff.mpr h.nd, fun d hd => h.few d (p.mem_iff.mp hd)⟩
theorem names_of {ys : List PyData} (hl : ys.length ≤ 26) (h : ∀ (j : Nat) (d : PyData), ys[j]? = some d → nameAt j d) : NamesOk ys := by
  refine ⟨all_upto fun i r hr => ?_, ?_, fun d hd x e => ?_⟩
  · obtain ⟨s, hs, rfl⟩ := h i r hr
    exact (nameJ_is (by have := (List.getElem?_eq_some_iff.mp hr).1; omega) hs).1
  · refine List.pairwise_iff_getElem.mpr fun i j hi hj hij => ?_
    rw [List.getElem_map, List.getElem_map]
    rw [List.length_map] at hi hj
    exact nameAt_ne (by omega) (by omega) (by omega) (h i _ (List.getElem?_eq_getElem hi)) (h j _ (List.getElem?_eq_getElem hj))
  · obtain ⟨i, hi⟩ := List.getElem?_of_mem hd
    obtain ⟨s, hs, rfl⟩ := h i d hi
    cases e
    exact (nameJ_is (by have := (List.getElem?_eq_some_iff.mp hi).1; omega) hs).2.1
theorem NamesOk.strs {es : List PyData} (h : NamesOk es) : strsD es := names_strsD h.all
theorem abc_at {j : Nat} (hj : j < 26) : ixD (.str "abcdefghijklmnopqrstuvwxyz") (.int (j : Nat)) = some (.str ⟨#[abc.getD j 0]⟩) := by
  have h : (List.range 26).all (fun j => match ixD (.str "abcdefghijklmnopqrstuvwxyz") (.int (j : Nat)) with
    | some (.str z) => z == (⟨#[abc.getD j 0]⟩ : Str)
    | _ => false) = true := by decide +kernel
  have h2 := List.all_eq_true.mp h j (List.mem_range.mpr hj)
  split at h2
  · rename_i z hz
    rw [hz]
    have : z = (⟨#[abc.getD j 0]⟩ : Str) := by simpa using h2
    rw [this]
  · cases h2
theorem names_spec {k : Nat} (hk : k ≤ 26) : Spec m_names [.int (k : Nat)] (k + k) fun d => ∃ es, d = .list es ∧ es.length = k ∧ NamesOk es := by
  refine fnW_spec rfl fun p n s hd hn => ?_
  show Ws g_names [.drw p s, .dat (.int (k : Nat)), .un, .un] _
  unfold g_names
  refine ws_seq (ws_asg ((pv_ret _).wp ⟨_, rfl, ?_⟩))
  show Ws _ [.drw p s, .dat (.int (k : Nat)), .dat (.str "abcdefghijklmnopqrstuvwxyz"), .un] _
  refine ws_ret ?_
  -- the list of names comes first, then the shuffling
  have lst : Wp (lcE [3] (.nm 3) (rng1 (consA (getV 1) nilA)) yesT (m2 addD (ixV 2 (getV 3)) (callW m_pick 0 (consA (frzE (lstE (consA (ret (.str "")) (consA (ret (.str "")) (consA (ret (.str "q")) (consA (ret (.str "zz")) nilA)))))) nilA)))) [.drw p s, .dat (.int (k : Nat)), .dat (.str "abcdefghijklmnopqrstuvwxyz"), .un]
      fun ys E => ∃ s1, E = [.drw p s1, .dat (.int (k : Nat)), .dat (.str "abcdefghijklmnopqrstuvwxyz"), .un] ∧ Dk (n + k) s1 ∧ ys.length = k ∧ NamesOk ys := by
    refine wp_lc ((pv_rng1 (pv_cons (pv_get rfl) pv_nil) (by omega)).wp ⟨fun i ys E => ∃ s1, E = [.drw p s1, .dat (.int (k : Nat)), .dat (.str "abcdefghijklmnopqrstuvwxyz"), .un] ∧ Dk (n + i) s1 ∧ ys.length = i ∧ ∀ (j : Nat) (d : PyData), ys[j]? = some d → nameAt j d, ⟨s, rfl, hd, rfl, fun j d h => by simp at h⟩, ?_, ?_⟩)
    · rintro i ys E d hdi ⟨s1, rfl, hd1, hl, hall⟩
      rw [List.getElem?_map] at hdi
      have hi : i < k := by
        rcases Nat.lt_or_ge i k with h | h
        · exact h
        · rw [List.getElem?_eq_none (by simpa using h)] at hdi
          cases hdi
      rw [List.getElem?_range hi] at hdi
      have ed := Option.some.inj hdi
      subst ed
      refine ⟨_, rfl, (wp_ret true).mpr ?_⟩
      rw [if_pos rfl, wp_m2]
      refine (pv_ixV (d := .str "abcdefghijklmnopqrstuvwxyz") rfl (pv_get rfl) (abc_at (by omega))).wp ?_
      refine wp_draw rfl (pv_cons (pv_frz (pv_lst (ds := sufs.map .str) rfl (by show 4 ≤ sizeLine; decide))) pv_nil) (pick_spec (ds := sufs.map .str) (by simp [sufs]) (by decide)) hd1 (by omega) fun d s' hm hd' => ?_
      obtain ⟨suf, hs, rfl⟩ := List.mem_map.mp hm
      have few : suf.length ≤ 2 := by
        have : sufs.all (fun s => decide (s.length ≤ 2)) = true := by decide +kernel
        simpa using List.all_eq_true.mp this suf hs
      refine ⟨.str (nameJ i suf), if_pos (size_le ?_), s', rfl, hd', by simp [hl], fun j d hj => ?_⟩
      · show (⟨#[abc.getD i 0]⟩ : Str).length + suf.length ≤ 100000
        have : (⟨#[abc.getD i 0]⟩ : Str).length = 1 := rfl
        omega
      · rcases Nat.lt_trichotomy j ys.length with h | h | h
        · rw [List.getElem?_append_left h] at hj
          exact hall j d hj
        · subst h
          rw [List.getElem?_concat_length] at hj
          cases hj
          rw [hl]
          exact ⟨suf, hs, rfl⟩
        · rw [List.getElem?_eq_none (by simp; omega)] at hj
          cases hj
    · rintro ys E ⟨s1, rfl, hd1, hl, hall⟩
      rw [List.length_map, List.length_range] at hd1 hl
      exact ⟨s1, rfl, hd1, hl, names_of (by omega) hall⟩
  obtain ⟨ys, E, e, s1, rfl, hd1, hl, ok⟩ := lst
  obtain ⟨d, s', e2, ⟨es, rfl, hp⟩, hd2⟩ := shuffled_spec ok.strs (by omega) p (n + k) s1 hd1 (by omega)
  refine wp_callW rfl (Wp.imp (Q := fun ds E => ds = [.list ys] ∧ E = [.drw p s1, .dat (.int (k : Nat)), .dat (.str "abcdefghijklmnopqrstuvwxyz"), .un]) ?_ fun ds E ⟨e1, e3⟩ => ?_)
  · rw [wp_cons, wp_frz]
    exact ⟨ys, _, e, wp_nil.mpr ⟨rfl, rfl⟩⟩
  · subst e1
    subst e3
    refine ⟨p, s1, rfl, _, s', e2, s', _, rfl, ⟨es, rfl, by rw [hp.length_eq, hl], ok.perm hp⟩, hd2.mono (by omega)⟩
end K19

set_option maxHeartbeats 4000000
namespace K19
open PySem PySem.Spec PyProof.Rows L2 He Sa NdefX RZ
theorem cut_to {ds : List PyData} {k : Nat} (h : k ≤ ds.length) : cutL ds none (some (k : Nat)) = ds.take k := by
  unfold cutL
  rw [HT.sIx_nat, HT.sIx_none, Nat.min_eq_left h]
  simp
theorem cut_mid {ds : List PyData} {a b : Nat} (h1 : a ≤ b) (h : b ≤ ds.length) : cutL ds (some (a : Nat)) (some (b : Nat)) = (ds.drop a).take (b - a) := by
  unfold cutL
  rw [HT.sIx_nat, HT.sIx_nat, Nat.min_eq_left h, Nat.min_eq_left (Nat.le_trans h1 h)]
theorem NamesOk.sub {es fs : List PyData} (h : NamesOk es) (s : fs.Sublist es) : NamesOk fs :=
  ⟨List.all_eq_true.mpr fun d hd => List.all_eq_true.mp h.all d (s.subset hd), h.nd.sublist (s.map keyF), fun d hd => h.few d (s.subset hd)⟩
theorem metK_nodup : ∀ {ks acc : List Key}, ks.Nodup → (∀ k ∈ ks, k ∉ acc) → metK acc ks = acc ++ ks
  | [], acc, _, _ => by simp [metK]
  | k :: ks, acc, h, hd => by
    show metK (if k ∈ acc then acc else acc ++ [k]) ks = _
    rw [if_neg (hd k List.mem_cons_self)]
    obtain ⟨h1, h2⟩ := List.nodup_cons.mp h
    rw [metK_nodup h2 fun x hx hm => ?_]
    · simp
    · rcases List.mem_append.mp hm with hm | hm
      · exact hd x (List.mem_cons_of_mem _ hx) hm
      · rw [List.mem_singleton] at hm
        subst hm
        exact h1 hx
theorem cnt_of {ds : List PyData} (h : (ds.map keyF).Nodup) : cntB ds = true := by
  unfold cntB cntK
  rw [metK_nodup h fun k _ hm => absurd hm (by simp)]
  simp
theorem names_B {ds : List PyData} (h : NamesOk ds) (h1 : 1 ≤ ds.length) (h2 : ds.length ≤ 5) : namesB 5 (.tuple ds) = true := by
  show (spanB ds 5 && ds.all nameB && cntB ds) = true
  have s : spanB ds 5 = true := by
    unfold spanB
    rw [Bool.and_eq_true, decide_eq_true_eq, decide_eq_true_eq]
    omega
  rw [s, h.all, cnt_of h.nd]
  rfl
/-- a drawn call -/
def CallD (c : PyData) : Prop := ∃ x ds, c = .tuple [.str "call", .str x, .tuple ds] ∧ nameB (.str x) = true ∧ x.length ≤ 3 ∧ NamesOk ds ∧ 1 ≤ ds.length ∧ ds.length ≤ 3
structure HouseD (cs : List PyData) : Prop where
  ok : HouseOk cs
  few : cs.length ≤ 3
  one : 1 ≤ cs.length
  all : ∀ c ∈ cs, CallD c
theorem house_D {cs : List PyData} (h1 : 1 ≤ cs.length) (h2 : cs.length ≤ 3) (h : ∀ c ∈ cs, CallD c) (hn : (cs.map nameOf).map keyF |>.Nodup) : HouseD cs := by
  refine ⟨⟨?_, List.all_eq_true.mpr fun c hc => ?_, cnt_of hn⟩, h2, h1, h⟩
  · unfold spanB
    rw [Bool.and_eq_true, decide_eq_true_eq, decide_eq_true_eq]
    omega
  · obtain ⟨x, ds, rfl, hx, _, ok, h3, h4⟩ := h c hc
    show (("call" == ("call" : Str)) && (nameB (.str x) && namesB 5 (.tuple ds))) = true
    rw [hx, names_B ok h3 (by omega)]
    rfl
theorem pick_int {l : List Nat} (h0 : l ≠ []) (hl : l.length < 1000) : Spec m_pick [.list (l.map fun k => .int (k : Nat))] 1 fun d => ∃ k : Nat, d = .int (k : Nat) ∧ k ∈ l :=
  (pick_spec (ds := l.map fun k => .int (k : Nat)) (by simpa using h0) (by rw [List.length_map]; omega)).imp fun d hd => by
    obtain ⟨k, hk, rfl⟩ := List.mem_map.mp hd
    exact ⟨k, rfl, hk⟩
theorem wp_sl {E : En} {Q : PyData → En → Prop} (f : M PyData) (l h : M (Option Int)) : Wp (slE f l h) E Q ↔ Wp f E fun d E1 => Wp l E1 fun lo E2 => Wp h E2 fun hi E3 => ∃ z, slD d lo hi = some z ∧ Q z E3 := by
  unfold slE
  simp only [wp_bnd, wp_ofO]
theorem wp_someO {E : En} {Q : Option Int → En → Prop} (f : M PyData) (h : Wp f E fun d E1 => ∃ i, d = .int i ∧ Q (some i) E1) : Wp (someO f) E Q := by
  unfold someO
  rw [wp_bnd]
  refine h.imp fun d E1 ⟨i, e, q⟩ => ?_
  subst e
  exact (wp_ret _).mpr q
theorem wp_noneO {E : En} {Q : Option Int → En → Prop} : Wp noneO E Q ↔ Q none E := wp_ret _
theorem house_spec : Spec m_house [] 60 fun d => ∃ cs, d = hs cs ∧ HouseD cs := by
  refine fnW_spec rfl fun p n s hd hn => ?_
  show Ws g_house [.drw p s, .un, .un, .un, .un, .un] _
  unfold g_house
  refine ws_seq (ws_asg (wp_draw rfl (pv_cons (pv_ret _) pv_nil) (names_spec (k := 9) (by decide)) hd (by omega) fun d s1 ⟨es, ed, hl, ok⟩ hd1 => ?_))
  subst ed
  refine ⟨_, rfl, ?_⟩
  refine ws_seq (ws_par ?_)
  unfold runR
  rw [wp_bnd, wp_sl]
  show Wp (getV 1) [.drw p s1, .dat (.list es), .un, .un, .un, .un] _
  refine (pv_get rfl).wp ?_
  rw [wp_noneO]
  refine wp_someO _ ((pv_ret _).wp ⟨5, rfl, .list (es.take 5), ?_, ?_⟩)
  · show some (PyData.list (cutL es none (some ((5 : Nat) : Int)))) = _
    rw [cut_to (by omega)]
  rw [wp_bnd]
  unfold runR
  rw [wp_bnd]
  refine (pv_lst pv_nil (Nat.zero_le _)).wp ?_
  rw [wp_bnd]
  unfold runR
  refine (pv_ret _).wp ?_
  rw [wp_ret, wp_ret]
  refine ⟨rfl, ws_seq ?_⟩
  show Ws _ [.drw p s1, .dat (.list es), .dat (.list (es.take 5)), .own [], .un, .un] _
  have lit6 : ∀ E : En, Pv (frzE (lstE (consA (ret (.int 2)) (consA (ret (.int 2)) (consA (ret (.int 2)) (consA (ret (.int 2)) (consA (ret (.int 3)) (consA (ret (.int 1)) nilA)))))))) E (.list ([2, 2, 2, 2, 3, 1].map fun k : Nat => .int (k : Nat))) := fun E => pv_frz (pv_lst (ds := [2, 2, 2, 2, 3, 1].map fun k : Nat => .int (k : Nat)) rfl (by show 6 ≤ sizeLine; decide))
  have lit5 : ∀ E : En, Pv (frzE (lstE (consA (ret (.int 2)) (consA (ret (.int 2)) (consA (ret (.int 2)) (consA (ret (.int 3)) (consA (ret (.int 1)) nilA))))))) E (.list ([2, 2, 2, 3, 1].map fun k : Nat => .int (k : Nat))) := fun E => pv_frz (pv_lst (ds := [2, 2, 2, 3, 1].map fun k : Nat => .int (k : Nat)) rfl (by show 5 ≤ sizeLine; decide))
  have okp := ok.sub (List.take_sublist 5 es)
  refine ws_for ?_
  rw [wp_itF, wp_sl]
  refine (pv_get rfl).wp ?_
  refine wp_someO _ ((pv_ret _).wp ⟨5, rfl, ?_⟩)
  refine wp_someO _ ?_
  rw [wp_m2]
  refine (pv_ret _).wp (wp_draw rfl (pv_cons (lit6 _) pv_nil) (pick_int (by decide) (by decide)) hd1 (by omega) fun d s2 ⟨k, ek, hk⟩ hd2 => ?_)
  subst ek
  have k13 : 1 ≤ k ∧ k ≤ 3 := by
    simp at hk
    omega
  refine ⟨.int ((5 + k : Nat) : Int), by show some (PyData.int ((5 : Int) + (k : Nat))) = _; congr 2, _, rfl, .list ((es.drop 5).take k), ?_, _, rfl, by simp [fitT], ?_⟩
  · show some (PyData.list (cutL es (some ((5 : Nat) : Int)) (some ((5 + k : Nat) : Int)))) = _
    rw [cut_mid (by omega) (by omega)]
    congr 3
    omega
  have okn := ok.sub ((List.take_sublist k (es.drop 5)).trans (List.drop_sublist 5 es))
  have lenN : ((es.drop 5).take k).length = k := by
    rw [List.length_take, List.length_drop]
    omega
  generalize hN : (es.drop 5).take k = ns at okn lenN ⊢
  refine ⟨fun i E => ∃ cs s3 x y, E = [.drw p s3, .dat (.list es), .dat (.list (es.take 5)), .own cs, x, y] ∧ Dk (n + 19 + 7 * i) s3 ∧ cs.length = i ∧ cs.map nameOf = ns.take i ∧ ∀ c ∈ cs, CallD c, ⟨[], s2, _, _, rfl, hd2.mono (by omega), rfl, rfl, fun c h => nomatch h⟩, ?_, ?_⟩
  · rintro i E nm hnm ⟨cs, s3, x, y, rfl, hd3, hcl, hcn, hall⟩
    have hi := (List.getElem?_eq_some_iff.mp hnm).1
    rw [lenN] at hi
    refine ⟨_, rfl, ws_seq (ws_asg ?_)⟩
    show Wp _ [.drw p s3, .dat (.list es), .dat (.list (es.take 5)), .own cs, .dat nm, y] _
    rw [wp_sl]
    have l5 : (es.take 5).length = 5 := by
      rw [List.length_take]
      omega
    refine wp_draw rfl (pv_cons (pv_get rfl) pv_nil) (shuffled_spec okp.strs (by omega)) hd3 (by omega) fun d s4 ⟨rs, er, hp⟩ hd4 => ?_
    subst er
    rw [l5] at hd4
    rw [wp_noneO]
    refine wp_someO _ (wp_draw rfl (pv_cons (lit5 _) pv_nil) (pick_int (by decide) (by decide)) hd4 (by omega) fun d s5 ⟨m, em, hm⟩ hd5 => ?_)
    subst em
    have m13 : 1 ≤ m ∧ m ≤ 3 := by
      simp at hm
      omega
    have lr : rs.length = 5 := by rw [hp.length_eq, l5]
    refine ⟨_, rfl, .list (rs.take m), ?_, _, rfl, ?_⟩
    · show some (PyData.list (cutL rs none (some ((m : Nat) : Int)))) = _
      rw [cut_to (by omega)]
    have okr := (okp.perm hp).sub (List.take_sublist m rs)
    have lm : (rs.take m).length = m := by
      rw [List.length_take]
      omega
    obtain ⟨nx, rfl⟩ := name_str (List.all_eq_true.mp okn.all nm (List.mem_of_getElem? hnm))
    show Ws _ [.drw p s5, .dat (.list es), .dat (.list (es.take 5)), .own cs, .dat (.str nx), .dat (.list (rs.take m))] _
    have three : 3 ≤ sizeLine := by decide
    have lk : Pv (calQ tupQ (lookV 5)) [.drw p s5, .dat (.list es), .dat (.list (es.take 5)), .own cs, .dat (.str nx), .dat (.list (rs.take m))] (.tuple (rs.take m)) := pv_calQ (z := (false, rs.take m)) rfl rfl
    refine ws_expr (wp_mut (ds0 := cs) rfl ((pv_cons (pv_tup (pv_cons (pv_ret _) (pv_cons (pv_get rfl) (pv_cons lk pv_nil))) three) pv_nil).wp ⟨cs, rfl, _, _, app_ok (Nat.lt_of_lt_of_le (show cs.length < 1000 by omega) (by decide)), ?_⟩))
    refine ⟨cs ++ [.tuple [.str "call", .str nx, .tuple (rs.take m)]], s5, _, _, rfl, hd5.mono (by omega), by simp [hcl], ?_, fun c hc => ?_⟩
    · rw [List.map_append, hcn, List.take_add_one, hnm]
      rfl
    · rcases List.mem_append.mp hc with hc | hc
      · exact hall c hc
      · rw [List.mem_singleton] at hc
        exact ⟨nx, rs.take m, hc, List.all_eq_true.mp okn.all _ (List.mem_of_getElem? hnm), okn.few _ (List.mem_of_getElem? hnm) nx rfl, okr, by omega, by omega⟩
  · rintro E ⟨cs, s3, x, y, rfl, hd3, hcl, hcn, hall⟩
    rw [lenN] at hcl hd3
    refine ws_retv (pv_tup (pv_cons (pv_ret _) (pv_cons (pv_calQ (z := (false, cs)) rfl rfl) pv_nil)) two_le) ⟨s3, _, rfl, ⟨cs, rfl, house_D (by omega) (by omega) hall ?_⟩, hd3.mono (by omega)⟩
    rw [hcn, List.take_length]
    exact okn.nd
end K19

set_option maxHeartbeats 4000000
namespace K19
open PySem PySem.Spec PyProof.Rows L2 He Sa NdefX RZ
theorem mem_memS {x : Str} {l : List PyData} (h : PyData.str x ∈ l) : memS x l = true := List.any_eq_true.mpr ⟨_, h, by simp [PyData.eqv]⟩
theorem name_in {cs : List PyData} (h : HouseOk cs) {d : PyData} (hd : d ∈ cs.map nameOf) : callNameB cs d = true := by
  obtain ⟨x, rfl, _⟩ := h.names d hd
  exact mem_memS hd
theorem rng_at {n i : Nat} {d : PyData} (h : ((List.range n).map fun k => PyData.int (k : Nat))[i]? = some d) : i < n ∧ d = .int (i : Nat) := by
  rw [List.getElem?_map] at h
  have hi : i < n := by
    rcases Nat.lt_or_ge i n with h2 | h2
    · exact h2
    · rw [List.getElem?_eq_none (by simpa using h2)] at h
      cases h
  rw [List.getElem?_range hi] at h
  exact ⟨hi, (Option.some.inj h).symm⟩
theorem wp_rng1 {E : En} {f : M (List PyData)} {Q : List PyData → En → Prop} (h : Wp f E fun ds E1 => ∃ n : Nat, ds = [.int (n : Nat)] ∧ n ≤ 100000 ∧ Q ((List.range n).map fun k => .int (k : Nat)) E1) : Wp (rng1 f) E Q := by
  unfold rng1
  rw [wp_bnd]
  refine h.imp fun ds E1 ⟨n, e, hn, q⟩ => ?_
  subst e
  have z := (pv_rng1 (E := E1) (f := ret [.int (n : Nat)]) rfl hn).wp (Q := Q) q
  unfold rng1 at z
  rw [wp_bnd] at z
  exact (wp_ret _).mp z
theorem word_spec {cs : List PyData} (h : HouseD cs) {most : Nat} (hm : most ≤ 1000) : Spec m_word [hs cs, .int (most : Nat)] (most + 2) fun d => ∃ ws, d = .tuple ws ∧ ws.length ≤ most ∧ ws.all (callNameB cs) = true := by
  refine fnW_spec rfl fun p n s hd hn => ?_
  show Ws g_word [.drw p s, .dat (hs cs), .dat (.int (most : Nat)), .un] _
  unfold g_word
  refine ws_ret ?_
  rw [wp_calQ, wp_sqF]
  have ha : Pv (m2 addD (getV 2) (ret (.int 1))) [.drw p s, .dat (hs cs), .dat (.int (most : Nat)), .un] (.int ((most + 1 : Nat) : Int)) := pv_m2 (pv_get rfl) (pv_ret _) (by show some (PyData.int (((most : Nat) : Int) + 1)) = _; congr 2)
  refine wp_lc (wp_rng1 ?_)
  rw [wp_cons]
  refine wp_draw rfl (pv_cons ha pv_nil) (take_spec (most + 1) (by omega) (by omega)) hd (by omega) fun d s1 ⟨k, ek, hk⟩ hd1 => ?_
  subst ek
  rw [wp_nil]
  refine ⟨k, rfl, by omega, fun i ys E => ∃ s2, E = [.drw p s2, .dat (hs cs), .dat (.int (most : Nat)), .un] ∧ Dk (n + 1 + i) s2 ∧ ys.length = i ∧ ys.all (callNameB cs) = true, ⟨s1, rfl, hd1, rfl, rfl⟩, ?_, ?_⟩
  · rintro i ys E d hdi ⟨s2, rfl, hd2, hl, hall⟩
    obtain ⟨hi, rfl⟩ := rng_at hdi
    refine ⟨_, rfl, (wp_ret true).mpr ?_⟩
    rw [if_pos rfl]
    have ne : cs.map nameOf ≠ [] := by
      intro e
      have l := congrArg List.length e
      rw [List.length_map] at l
      have l : cs.length = 0 := l
      have o := h.one
      omega
    refine wp_draw rfl (pv_cons (pv_call (pv_cons (pv_get rfl) pv_nil) (p_calls h.ok)) pv_nil) (pick_spec ne (by rw [List.length_map]; have := h.few; omega)) hd2 (by omega) fun d s3 hmem hd3 => ?_
    exact ⟨s3, rfl, hd3, by simp [hl], by rw [List.all_append, hall]; simp [name_in h.ok hmem]⟩
  · rintro ys E ⟨s2, rfl, hd2, hl, hall⟩
    rw [List.length_map, List.length_range] at hd2 hl
    exact ⟨_, rfl, s2, _, rfl, ⟨ys, rfl, by omega, hall⟩, hd2.mono (by omega)⟩
theorem program_spec {cs : List PyData} (h : HouseD cs) {most : Nat} (h1 : 1 ≤ most) (hm : most ≤ 1000) : Spec m_program [hs cs, .int (most : Nat)] (1 + 6 * most) fun d => ∃ rows, d = pr cs rows ∧ ProgOk cs rows ∧ rows.length ≤ most := by
  refine fnW_spec rfl fun p n s hd hn => ?_
  show Ws g_program [.drw p s, .dat (hs cs), .dat (.int (most : Nat)), .un, .un, .un, .un] _
  unfold g_program
  refine ws_seq (ws_asg ?_)
  rw [wp_m2]
  refine (pv_ret _).wp (wp_draw rfl (pv_cons (pv_get rfl) pv_nil) (take_spec most (by omega) (by omega)) hd (by omega) fun d s1 ⟨k, ek, hk⟩ hd1 => ?_)
  subst ek
  refine ⟨.int ((k + 1 : Nat) : Int), by show some (PyData.int (1 + ((k : Nat) : Int))) = _; congr 2; omega, _, rfl, ?_⟩
  show Ws _ [.drw p s1, .dat (hs cs), .dat (.int (most : Nat)), .dat (.int ((k + 1 : Nat) : Int)), .un, .un, .un] _
  refine ws_seq (ws_own (wp_lc ((pv_rng1 (pv_cons (pv_get rfl) pv_nil) (by omega)).wp ⟨fun i ys E => ∃ s2, E = [.drw p s2, .dat (hs cs), .dat (.int (most : Nat)), .dat (.int ((k + 1 : Nat) : Int)), .un, .un, .un] ∧ Dk (n + 1 + 6 * i) s2 ∧ ys.length = i ∧ ys.all (rowB cs ((k + 1 : Nat) : Int)) = true,
    ⟨s1, rfl, hd1, rfl, rfl⟩, ?_, ?_⟩)))
  · rintro i ys E d hdi ⟨s2, rfl, hd2, hl, hall⟩
    obtain ⟨hi, rfl⟩ := rng_at hdi
    refine ⟨_, rfl, (wp_ret true).mpr ?_⟩
    rw [if_pos rfl, wp_calQ, wp_sqF]
    show Wp _ [.drw p s2, .dat (hs cs), .dat (.int (most : Nat)), .dat (.int ((k + 1 : Nat) : Int)), .un, .dat (.int (i : Nat)), .un] _
    refine wp_lc ((pv_itF (pv_ixV rfl (pv_ret _) (ix_tup (i := 1) (d := .tuple cs) rfl)) rfl (by simp [fitT])).wp ⟨fun j ps E => ∃ s3, E = [.drw p s3, .dat (hs cs), .dat (.int (most : Nat)), .dat (.int ((k + 1 : Nat) : Int)), .un, .dat (.int (i : Nat)), .un] ∧ Dk (n + 1 + 6 * i + 2 * j) s3 ∧ ps.length = j ∧
      ∀ (m : Nat) (c q : PyData), cs[m]? = some c → ps[m]? = some q → pairB c ((k + 1 : Nat) : Int) q = true, ⟨s2, rfl, hd2, rfl, fun m c q _ h => by simp at h⟩, ?_, ?_⟩)
    · rintro j ps E c hc ⟨s3, rfl, hd3, hpl, hpair⟩
      obtain ⟨x, ds, rfl, hx, _, okd, d1, d3⟩ := h.all c (List.mem_of_getElem? hc)
      have hj := (List.getElem?_eq_some_iff.mp hc).1
      have few := h.few
      refine ⟨_, rfl, (wp_ret true).mpr ?_⟩
      rw [if_pos rfl, wp_tup, wp_cons]
      show Wp _ [.drw p s3, .dat (hs cs), .dat (.int (most : Nat)), .dat (.int ((k + 1 : Nat) : Int)), .un, .dat (.int (i : Nat)), .dat (.tuple [.str "call", .str x, .tuple ds])] _
      have told : Pv (frzE (listQ (sqE (ixV 6 (ret (.int 2)))))) [.drw p s3, .dat (hs cs), .dat (.int (most : Nat)), .dat (.int ((k + 1 : Nat) : Int)), .un, .dat (.int (i : Nat)), .dat (.tuple [.str "call", .str x, .tuple ds])] (.list ds) := by
        refine pv_frz (pv_bnd (a := (true, ds)) ?_ rfl)
        exact pv_bnd (pv_ixV rfl (pv_ret _) (ix_tup (i := 2) (d := .tuple ds) rfl)) rfl
      refine wp_draw rfl (pv_cons told pv_nil) (pick_spec (ds := ds) (by intro e; subst e; simp at d1) (by omega)) hd3 (by omega) fun a s4 ham hd4 => ?_
      rw [wp_cons]
      refine wp_draw rfl (pv_cons (pv_get rfl) pv_nil) (take_spec (k + 1) (by omega) (by omega)) hd4 (by omega) fun b s5 ⟨m, em, hm⟩ hd5 => ?_
      subst em
      rw [wp_nil]
      refine ⟨two_le, s5, rfl, hd5.mono (by omega), by simp [hpl], fun m2 c2 q hc2 hq => ?_⟩
      rcases Nat.lt_trichotomy m2 ps.length with hlt | heq | hgt
      · rw [List.getElem?_append_left hlt] at hq
        exact hpair m2 c2 q hc2 hq
      · subst heq
        rw [List.getElem?_concat_length] at hq
        cases hq
        rw [hpl, hc] at hc2
        cases hc2
        obtain ⟨y, rfl, _⟩ := okd.strs a ham
        show (memS y ds && (decide (0 ≤ ((m : Nat) : Int)) && decide (((m : Nat) : Int) < ((k + 1 : Nat) : Int)))) = true
        rw [mem_memS ham, decide_eq_true (by omega), decide_eq_true (by omega)]
        rfl
      · rw [List.getElem?_eq_none (by simp; omega)] at hq
        cases hq
    · rintro ps E ⟨s3, rfl, hd3, hpl, hpair⟩
      refine ⟨.tuple ps, rfl, s3, rfl, ?_, by simp [hl], ?_⟩
      · have := h.few
        exact hd3.mono (by omega)
      · have hz : ((cs.zip ps).all fun z => pairB z.1 ((k + 1 : Nat) : Int) z.2) = true := zip_all fun m c q hc hq => hpair m c q hc hq
        have hrow : rowB cs ((k + 1 : Nat) : Int) (.tuple ps) = true := by
          show (ps.length == cs.length && _) = true
          rw [hz, hpl]
          simp
        rw [List.all_append, hall, Bool.true_and]
        show (rowB cs ((k + 1 : Nat) : Int) (.tuple ps) && true) = true
        rw [hrow]
        rfl
  · rintro ys E ⟨s2, rfl, hd2, hl, hall⟩
    rw [List.length_map, List.length_range] at hd2 hl
    refine ws_retv (pv_tup (ds := [.str "program", hs cs, .tuple ys]) (pv_cons (pv_ret _) (pv_cons (pv_get rfl) (pv_cons (pv_calQ (z := (false, ys)) rfl rfl) pv_nil))) (by show 3 ≤ sizeLine; decide)) ⟨s2, _, rfl, ⟨ys, rfl, ⟨h.ok, ?_, by rw [hl]; exact hall⟩, by omega⟩, hd2.mono (by omega)⟩
    cases ys with
    | nil => simp at hl
    | cons y l => rfl
end K19

set_option maxHeartbeats 4000000
namespace K19
open PySem PySem.Spec PyProof.Rows L2 He Sa NdefX RZ
mutual
/-- small data: texts and sequences no longer than b, numbers no greater -/
def smD (b : Nat) : PyData → Bool
  | .str x => PyData.strOk x && decide (x.length ≤ b)
  | .list xs => smAll b xs && decide (xs.length ≤ b)
  | .tuple xs => smAll b xs && decide (xs.length ≤ b)
  | .dict kvs => kvs.isEmpty
  | .int i => decide (i.natAbs ≤ b)
  | .none => true
  | .bool _ => true
def smAll (b : Nat) : List PyData → Bool
  | [] => true
  | x :: xs => smD b x && smAll b xs
end
theorem smAll_iff {b : Nat} : ∀ {xs : List PyData}, smAll b xs = true ↔ ∀ x ∈ xs, smD b x = true
  | [] => by simp [smAll]
  | x :: xs => by simp [smAll, smAll_iff (xs := xs)]
theorem sm_str {b : Nat} {x : Str} : smD b (.str x) = true ↔ PyData.strOk x = true ∧ x.length ≤ b := by simp [smD]
theorem sm_int {b : Nat} {i : Int} : smD b (.int i) = true ↔ i.natAbs ≤ b := by simp [smD]
theorem sm_tup {b : Nat} {xs : List PyData} : smD b (.tuple xs) = true ↔ (∀ x ∈ xs, smD b x = true) ∧ xs.length ≤ b := by simp [smD, smAll_iff]
theorem sm_lst {b : Nat} {xs : List PyData} : smD b (.list xs) = true ↔ (∀ x ∈ xs, smD b x = true) ∧ xs.length ≤ b := by simp [smD, smAll_iff]
mutual
theorem sm_more {b c : Nat} (h : b ≤ c) : ∀ d : PyData, smD b d = true → smD c d = true
  | .str x, q => sm_str.mpr ⟨(sm_str.mp q).1, Nat.le_trans (sm_str.mp q).2 h⟩
  | .int i, q => sm_int.mpr (Nat.le_trans (sm_int.mp q) h)
  | .tuple xs, q => sm_tup.mpr ⟨smAll_iff.mp (sm_moreAll h xs (smAll_iff.mpr (sm_tup.mp q).1)), Nat.le_trans (sm_tup.mp q).2 h⟩
  | .list xs, q => sm_lst.mpr ⟨smAll_iff.mp (sm_moreAll h xs (smAll_iff.mpr (sm_lst.mp q).1)), Nat.le_trans (sm_lst.mp q).2 h⟩
  | .dict _, q => q
  | .none, _ => rfl
  | .bool _, _ => rfl
theorem sm_moreAll {b c : Nat} (h : b ≤ c) : ∀ xs : List PyData, smAll b xs = true → smAll c xs = true
  | [], _ => rfl
  | x :: xs, q => by
    have q : smD b x = true ∧ smAll b xs = true := by simpa [smAll] using q
    simp [smAll, sm_more h x q.1, sm_moreAll h xs q.2]
end
mutual
theorem sm_fit {b : Nat} (h : b ≤ 100000) : ∀ d : PyData, smD b d = true → fitD d = true
  | .str x, q => by simp [fitD, (sm_str.mp q).1, Nat.le_trans (sm_str.mp q).2 h]
  | .int i, q => by simp [fitD]
  | .tuple xs, q => by simp [fitD, sm_fitAll h xs (smAll_iff.mpr (sm_tup.mp q).1), Nat.le_trans (sm_tup.mp q).2 h]
  | .list xs, q => by simp [fitD, sm_fitAll h xs (smAll_iff.mpr (sm_lst.mp q).1), Nat.le_trans (sm_lst.mp q).2 h]
  | .dict kvs, q => by simpa [fitD, smD] using q
  | .none, _ => by simp [fitD]
  | .bool _, _ => by simp [fitD]
theorem sm_fitAll {b : Nat} (h : b ≤ 100000) : ∀ xs : List PyData, smAll b xs = true → fitAll xs = true
  | [], _ => by simp [fitAll]
  | x :: xs, q => by
    have q : smD b x = true ∧ smAll b xs = true := by simpa [smAll] using q
    simp [fitAll, sm_fit h x q.1, sm_fitAll h xs q.2]
end
/-! the tuples within -/
mutual
def tcnt : PyData → Nat
  | .tuple xs => 1 + tcnts xs
  | _ => 1
def tcnts : List PyData → Nat
  | [] => 0
  | x :: xs => tcnt x + tcnts xs
end
mutual
def tdep : PyData → Nat
  | .tuple xs => 1 + tdeps xs
  | _ => 0
def tdeps : List PyData → Nat
  | [] => 0
  | x :: xs => max (tdep x) (tdeps xs)
end
theorem tcnt_tup (xs : List PyData) : tcnt (.tuple xs) = 1 + tcnts xs := by simp [tcnt]
theorem tdep_tup (xs : List PyData) : tdep (.tuple xs) = 1 + tdeps xs := by simp [tdep]
theorem tcnts_app : ∀ (xs ys : List PyData), tcnts (xs ++ ys) = tcnts xs + tcnts ys
  | [], ys => by simp [tcnts]
  | x :: xs, ys => by simp [tcnts, tcnts_app xs ys, Nat.add_assoc]
theorem tdeps_app : ∀ (xs ys : List PyData), tdeps (xs ++ ys) = max (tdeps xs) (tdeps ys)
  | [], ys => by simp [tdeps]
  | x :: xs, ys => by simp [tdeps, tdeps_app xs ys, Nat.max_assoc]
theorem tcnt_pos (d : PyData) : 1 ≤ tcnt d := by
  cases d <;> simp [tcnt]
theorem split_at {xs : List PyData} {k : Nat} {d : PyData} (h : xs[k]? = some d) : xs = xs.take k ++ d :: xs.drop (k + 1) := by
  obtain ⟨hk, e⟩ := List.getElem?_eq_some_iff.mp h
  rw [← e, ← List.drop_eq_getElem_cons hk, List.take_append_drop]
theorem tcnts_at {xs : List PyData} {k : Nat} {d : PyData} (h : xs[k]? = some d) : tcnts xs = tcnts (xs.take k) + (tcnt d + tcnts (xs.drop (k + 1))) := by
  have e : tcnts xs = tcnts (xs.take k ++ d :: xs.drop (k + 1)) := congrArg tcnts (split_at h)
  rw [e, tcnts_app]
  simp [tcnts]
theorem tdeps_at {xs : List PyData} {k : Nat} {d : PyData} (h : xs[k]? = some d) : tdeps xs = max (tdeps (xs.take k)) (max (tdep d) (tdeps (xs.drop (k + 1)))) := by
  have e : tdeps xs = tdeps (xs.take k ++ d :: xs.drop (k + 1)) := congrArg tdeps (split_at h)
  rw [e, tdeps_app]
  simp [tdeps]
/-- what a path leads to -/
def goP : PyData → List Nat → Option PyData
  | d, [] => some d
  | .tuple ds, k :: ks => (ds[k]?).bind fun e => goP e ks
  | _, _ :: _ => none
/-- another part there -/
def putP : PyData → List Nat → PyData → PyData
  | _, [], x => x
  | .tuple ds, k :: ks, x => .tuple (ds.take k ++ putP (ds.getD k .none) ks x :: ds.drop (k + 1))
  | d, _ :: _, _ => d
theorem goP_cons {d e : PyData} {k : Nat} {ks : List Nat} (h : goP d (k :: ks) = some e) : ∃ ds c, d = .tuple ds ∧ ds[k]? = some c ∧ goP c ks = some e := by
  cases d with
  | tuple ds =>
    have h : (ds[k]?).bind (fun e => goP e ks) = some e := h
    cases hk : ds[k]? with
    | none =>
      rw [hk] at h
      cases h
    | some c =>
      rw [hk] at h
      exact ⟨ds, c, rfl, hk, h⟩
  | _ => cases h
theorem goP_snoc {d : PyData} {k : Nat} : ∀ {ks : List Nat} {d e c : PyData} {ds : List PyData}, goP d ks = some e → e = .tuple ds → ds[k]? = some c → goP d (ks ++ [k]) = some c
  | [], d, e, c, ds, h, he, hc => by
    have h := Option.some.inj h
    subst h
    subst he
    show (ds[k]?).bind (fun e => goP e []) = some c
    rw [hc]
    rfl
  | j :: ks, d, e, c, ds, h, he, hc => by
    obtain ⟨es, x, rfl, hx, hg⟩ := goP_cons h
    show (es[j]?).bind (fun e => goP e (ks ++ [k])) = some c
    rw [hx]
    exact goP_snoc (d := d) hg he hc
theorem goP_dep : ∀ {ks : List Nat} {d e : PyData}, goP d ks = some e → ks.length + tdep e ≤ tdep d ∧ tcnt e ≤ tcnt d
  | [], d, e, h => by
    have h := Option.some.inj h
    subst h
    simp
  | k :: ks, d, e, h => by
    obtain ⟨ds, c, rfl, hc, hg⟩ := goP_cons h
    obtain ⟨h1, h2⟩ := goP_dep hg
    rw [tdep_tup, tdeps_at hc, tcnt_tup, tcnts_at hc]
    simp only [List.length_cons]
    omega
theorem goP_sm {b : Nat} : ∀ {ks : List Nat} {d e : PyData}, goP d ks = some e → smD b d = true → smD b e = true
  | [], d, e, h, q => by
    have h := Option.some.inj h
    subst h
    exact q
  | k :: ks, d, e, h, q => by
    obtain ⟨ds, c, rfl, hc, hg⟩ := goP_cons h
    exact goP_sm hg ((sm_tup.mp q).1 c (List.mem_of_getElem? hc))
theorem putP_ok {b : Nat} {x : PyData} (hx : smD b x = true) : ∀ {ks : List Nat} {d e : PyData}, goP d ks = some e → smD b d = true → smD b (putP d ks x) = true ∧ tdep (putP d ks x) ≤ max (tdep d) (ks.length + tdep x) ∧ tcnt (putP d ks x) ≤ tcnt d + tcnt x
  | [], d, e, h, q => ⟨hx, by show tdep x ≤ _; simp; omega, by show tcnt x ≤ _; omega⟩
  | k :: ks, d, e, h, q => by
    obtain ⟨ds, c, rfl, hc, hg⟩ := goP_cons h
    have qa := (sm_tup.mp q).1
    obtain ⟨h1, h2, h3⟩ := putP_ok hx hg (qa c (List.mem_of_getElem? hc))
    have ec : ds.getD k .none = c := by
      rw [List.getD_eq_getElem?_getD, hc]
      rfl
    have ep : putP (.tuple ds) (k :: ks) x = .tuple (ds.take k ++ putP c ks x :: ds.drop (k + 1)) := by
      show PyData.tuple (ds.take k ++ putP (ds.getD k .none) ks x :: ds.drop (k + 1)) = _
      rw [ec]
    rw [ep]
    have hk := (List.getElem?_eq_some_iff.mp hc).1
    refine ⟨sm_tup.mpr ⟨fun y hy => ?_, ?_⟩, ?_, ?_⟩
    · rcases List.mem_append.mp hy with hy | hy
      · exact qa y (List.mem_of_mem_take hy)
      · rcases List.mem_cons.mp hy with rfl | hy
        · exact h1
        · exact qa y (List.mem_of_mem_drop hy)
    · have := (sm_tup.mp q).2
      simp
      omega
    · rw [tdep_tup, tdep_tup, tdeps_app, tdeps_at hc]
      simp only [tdeps, List.length_cons]
      omega
    · rw [tcnt_tup, tcnt_tup, tcnts_app, tcnts_at hc]
      simp only [tcnts]
      omega
end K19

set_option maxHeartbeats 4000000
namespace K19
open PySem PySem.Spec PyProof.Rows L2 He Sa NdefX RZ
def pathD (ks : List Nat) : PyData := .tuple (ks.map fun k => .int (k : Nat))
theorem goP_app : ∀ {a b : List Nat} {d : PyData}, goP d (a ++ b) = (goP d a).bind fun c => goP c b
  | [], b, d => rfl
  | k :: a, b, d => by
    cases d with
    | tuple ds =>
      show (ds[k]?).bind (fun e => goP e (a ++ b)) = ((ds[k]?).bind fun e => goP e a).bind fun c => goP c b
      cases ds[k]? with
      | none => rfl
      | some e => exact goP_app
    | _ => rfl
theorem p_part_at {d e : PyData} {ks : List Nat} (h : goP d ks = some e) : m_part_at [d, pathD ks] = some (.ok e) := by
  refine fnD_ok rfl ?_
  show Ws g_part_at [.dat d, .dat (pathD ks), .un] _
  unfold g_part_at
  refine ws_seq (ws_for ((pv_itF (pv_get rfl) rfl (by simp [fitT])).wp ⟨fun i E => ∃ c x, goP d (ks.take i) = some c ∧ E = [.dat c, .dat (pathD ks), x], ⟨d, _, rfl, rfl⟩, ?_, ?_⟩))
  · rintro i E kd hk ⟨c, x, hc, rfl⟩
    rw [List.getElem?_map] at hk
    cases hki : ks[i]? with
    | none =>
      rw [hki] at hk
      cases hk
    | some k =>
      rw [hki] at hk
      have e1 := Option.some.inj hk
      subst e1
      have sp : ks = ks.take i ++ k :: ks.drop (i + 1) := by
        obtain ⟨hi, e⟩ := List.getElem?_eq_some_iff.mp hki
        rw [← e, ← List.drop_eq_getElem_cons hi, List.take_append_drop]
      have h2 := h
      rw [sp, goP_app, hc] at h2
      obtain ⟨ds, c2, rfl, hc2, hg⟩ := goP_cons (show goP c (k :: ks.drop (i + 1)) = some e from h2)
      refine ⟨_, rfl, ws_asg ((pv_ixV (d := .tuple ds) rfl (pv_get rfl) (ix_tup hc2)).wp ⟨_, rfl, c2, _, ?_, rfl⟩)⟩
      rw [List.take_add_one, hki]
      exact goP_snoc (d := d) hc rfl hc2
  · rintro E ⟨c, x, hc, rfl⟩
    rw [List.length_map, List.take_length, h] at hc
    have ec := Option.some.inj hc
    subst ec
    exact ws_retv (pv_get rfl) rfl
theorem cut_from {ds : List PyData} {a : Nat} (h : a ≤ ds.length) : cutL ds (some (a : Nat)) none = ds.drop a := by
  unfold cutL
  rw [HT.sIx_nat, HT.sIx_none, Nat.min_eq_left h]
  exact List.take_of_length_le (by rw [List.length_drop]; omega)
theorem pv_some {E : En} {f : M PyData} {i : Int} (h : Pv f E (.int i)) : Pv (someO f) E (some i) := pv_bnd h rfl
theorem pv_none {E : En} : Pv noneO E none := rfl
theorem pv_sl {E : En} {f : M PyData} {l h : M (Option Int)} {d z : PyData} {lo hi : Option Int} (h1 : Pv f E d) (h2 : Pv l E lo) (h3 : Pv h E hi) (e : slD d lo hi = some z) : Pv (slE f l h) E z := pv_bnd h1 (pv_bnd h2 (pv_bnd h3 (by unfold Pv; rw [e]; rfl)))
theorem add_tup {xs ys : List PyData} (h : xs.length + ys.length ≤ 100000) : addD (.tuple xs) (.tuple ys) = some (.tuple (xs ++ ys)) := if_pos (size_le h)
theorem add_lst {xs ys : List PyData} (h : xs.length + ys.length ≤ 100000) : addD (.list xs) (.list ys) = some (.list (xs ++ ys)) := if_pos (size_le h)
theorem p_put_at {b : Nat} (hb : b ≤ 1000) {x : PyData} : ∀ (n : Nat) {ks : List Nat} {d e : PyData}, goP d ks = some e → smD b d = true → ks.length ≤ n → m_put_at (n + 1) [d, pathD ks, x] = some (.ok (putP d ks x)) := by
  intro n
  induction n with
  | zero =>
    intro ks d e h q hl
    have hk : ks = [] := List.length_eq_zero_iff.mp (by omega)
    subst hk
    refine fnD_ok rfl ?_
    show Ws (g_put_at (m_put_at 0)) [.dat d, .dat (pathD []), .dat x] _
    unfold g_put_at
    exact ws_seq (ws_ifv (b := true) (pv_asB (pv_m2V (d := pathD []) rfl (pv_tup pv_nil (Nat.zero_le _)) (eqD_nil _))) (fun _ => ws_retv (pv_get rfl) rfl) fun h => nomatch h)
  | succ n ih =>
    intro ks d e h q hl
    refine fnD_ok rfl ?_
    show Ws (g_put_at (m_put_at (n + 1))) [.dat d, .dat (pathD ks), .dat x] _
    unfold g_put_at
    cases ks with
    | nil => exact ws_seq (ws_ifv (b := true) (pv_asB (pv_m2V (d := pathD []) rfl (pv_tup pv_nil (Nat.zero_le _)) (eqD_nil _))) (fun _ => ws_retv (pv_get rfl) rfl) fun h => nomatch h)
    | cons k ks =>
      obtain ⟨ds, c, rfl, hc, hg⟩ := goP_cons h
      have hk := (List.getElem?_eq_some_iff.mp hc).1
      have hlen := (sm_tup.mp q).2
      have qc := (sm_tup.mp q).1 c (List.mem_of_getElem? hc)
      refine ws_seq (ws_ifv (b := false) (pv_asB (pv_m2V (d := pathD (k :: ks)) rfl (pv_tup pv_nil (Nat.zero_le _)) (eqD_nil _))) (fun h => nomatch h) fun _ => ws_nx ?_)
      have i0 : Pv (ixV 1 (ret (.int 0))) [.dat (.tuple ds), .dat (pathD (k :: ks)), .dat x] (.int (k : Nat)) := pv_ixV (d := pathD (k :: ks)) rfl (pv_ret _) (ix_tup (ds := (k :: ks).map fun k => .int (k : Nat)) (i := 0) (d := .int (k : Nat)) rfl)
      have left : Pv (slE (getV 0) noneO (someO (ixV 1 (ret (.int 0))))) [.dat (.tuple ds), .dat (pathD (k :: ks)), .dat x] (.tuple (ds.take k)) := pv_sl (pv_get rfl) pv_none (pv_some i0) (by show some (PyData.tuple (cutL ds none (some ((k : Nat) : Int)))) = _; rw [cut_to (by omega)])
      have rest : Pv (slE (getV 1) (someO (ret (.int 1))) noneO) [.dat (.tuple ds), .dat (pathD (k :: ks)), .dat x] (pathD ks) := pv_sl (pv_get rfl) (pv_some (pv_ret _)) pv_none (by
        show some (PyData.tuple (cutL ((k :: ks).map fun k => PyData.int (k : Nat)) (some ((1 : Nat) : Int)) none)) = _
        rw [cut_from (by simp)]
        rfl)
      have right : Pv (slE (getV 0) (someO (m2 addD (ixV 1 (ret (.int 0))) (ret (.int 1)))) noneO) [.dat (.tuple ds), .dat (pathD (k :: ks)), .dat x] (.tuple (ds.drop (k + 1))) := pv_sl (pv_get rfl) (pv_some (pv_m2 i0 (pv_ret _) (by show some (PyData.int (((k : Nat) : Int) + 1)) = some (PyData.int ((k + 1 : Nat) : Int)); congr 2))) pv_none (by
        show some (PyData.tuple (cutL ds (some ((k + 1 : Nat) : Int)) none)) = _
        rw [cut_from (by omega)])
      have ec : ds.getD k .none = c := by
        rw [List.getD_eq_getElem?_getD, hc]
        rfl
      have mid : Pv (tupE (consA (callE (m_put_at (n + 1)) (consA (ixV 0 (ixV 1 (ret (.int 0)))) (consA (slE (getV 1) (someO (ret (.int 1))) noneO) (consA (getV 2) nilA)))) nilA)) [.dat (.tuple ds), .dat (pathD (k :: ks)), .dat x] (.tuple [putP c ks x]) :=
        pv_tup (pv_cons (pv_call (pv_cons (pv_ixV (d := .tuple ds) rfl i0 (ix_tup hc)) (pv_cons rest (pv_cons (pv_get rfl) pv_nil))) (ih hg qc (by simp at hl; omega))) pv_nil) (by show 1 ≤ sizeLine; decide)
      refine ws_retv (pv_m2 (pv_m2 left mid (add_tup ?_)) right (add_tup ?_)) ?_
      · simp
        omega
      · simp
        omega
      · show PyData.tuple (ds.take k ++ [putP c ks x] ++ ds.drop (k + 1)) = .tuple (ds.take k ++ putP (ds.getD k .none) ks x :: ds.drop (k + 1))
        rw [ec]
        simp
end K19

set_option maxHeartbeats 4000000
namespace K19
open PySem PySem.Spec PyProof.Rows L2 He Sa NdefX RZ
abbrev PP := List Nat × PyData
def pq (z : PP) : PyData := .tuple [pathD z.1, z.2]
def kids (ks : List Nat) (ps : List PyData) : List PP := (List.range ps.length).map fun k => (ks ++ [k], ps.getD k .none)
theorem kids_snd (ks : List Nat) (ps : List PyData) : (kids ks ps).map (·.2) = ps := by
  unfold kids
  rw [List.map_map]
  refine List.ext_getElem (by simp) fun i h1 h2 => ?_
  rw [List.getElem_map]
  simp [List.getElem_range, h2]
theorem kids_len (ks : List Nat) (ps : List PyData) : (kids ks ps).length = ps.length := by simp [kids]
theorem kids_at {ks : List Nat} {ps : List PyData} {i : Nat} {z : PP} (h : (kids ks ps)[i]? = some z) : i < ps.length ∧ z = (ks ++ [i], ps.getD i .none) := by
  unfold kids at h
  rw [List.getElem?_map] at h
  have hi : i < ps.length := by
    rcases Nat.lt_or_ge i ps.length with h2 | h2
    · exact h2
    · rw [List.getElem?_eq_none (by simpa using h2)] at h
      cases h
  rw [List.getElem?_range hi] at h
  exact ⟨hi, (Option.some.inj h).symm⟩
theorem goP_len {d e : PyData} {ks : List Nat} (h : goP d ks = some e) : ks.length + tcnt e ≤ tcnt d := by
  induction ks generalizing d with
  | nil =>
    have h := Option.some.inj h
    subst h
    simp
  | cons k ks ih =>
    obtain ⟨ds, c, rfl, hc, hg⟩ := goP_cons h
    have := ih hg
    rw [tcnt_tup, tcnts_at hc]
    simp only [List.length_cons]
    omega
theorem tcnts_len : ∀ l : List PyData, l.length ≤ tcnts l
  | [] => Nat.le_refl _
  | x :: l => by
    have h1 := tcnt_pos x
    have h2 := tcnts_len l
    simp only [tcnts, List.length_cons]
    omega
theorem pv_enumT {E : En} {f : M (List PyData)} {xs : List PyData} (h : Pv f E [.tuple xs]) (hl : xs.length ≤ 100000) : Pv (enumE f) E (enumL 0 xs) := by
  unfold enumE
  refine pv_bnd h ?_
  unfold Pv
  try dsimp only
  rw [if_pos (size_le hl)]
  rfl
theorem p_places {b : Nat} {d : PyData} (hc : tcnt d ≤ 50000) (hd : smD b d = true) (hb : b ≤ 1000) : ∃ zs : List PP, m_places [d] = some (.ok (.list (zs.map fun z => pathD z.1))) ∧ zs ≠ [] ∧ zs.length ≤ 50000 ∧ ∀ z ∈ zs, goP d z.1 = some z.2 := by
  suffices h : Ws g_places [.dat d, .un, .un, .un, .un, .un, .un] (fun o => ∃ zs E, o = .rt (.list (zs.map fun z : PP => pathD z.1)) E ∧ zs ≠ [] ∧ zs.length ≤ 50000 ∧ ∀ z ∈ zs, goP d z.1 = some z.2) by
    obtain ⟨o, e, zs, E, rfl, h1, h2, h3⟩ := h
    refine ⟨zs, ?_, h1, h2, h3⟩
    exact fnD_ok rfl ⟨_, e, rfl⟩
  unfold g_places
  refine ws_seq (ws_par ?_)
  unfold runR
  rw [wp_bnd]
  refine (pv_lst (pv_cons (pv_tup (pv_cons (pv_tup pv_nil (Nat.zero_le _)) (pv_cons (pv_get rfl) pv_nil)) two_le) pv_nil) (by show 1 ≤ sizeLine; decide)).wp ?_
  rw [wp_bnd]
  unfold runR
  rw [wp_bnd]
  refine (pv_ret _).wp ?_
  rw [wp_bnd]
  unfold runR
  refine (pv_ret _).wp ?_
  rw [wp_ret, wp_ret]
  refine ⟨rfl, ws_seq ?_⟩
  refine ws_whl (fun m E => ∃ (zs : List PP) (a : Nat) (x y : Sk), E = [.dat d, .own (zs.map pq), .dat (.int (a : Nat)), x, y, .un, .un] ∧ (∀ z ∈ zs, goP d z.1 = some z.2) ∧ a ≤ zs.length ∧ a + tcnts ((zs.drop a).map (·.2)) = tcnt d ∧ m = tcnt d - a ∧ zs ≠ []) (tcnt d)
    ⟨[([], d)], 0, _, _, rfl, fun z hz => ?_, Nat.zero_le _, by simp [tcnts], rfl, by simp⟩ ?_
  · rw [List.mem_singleton] at hz
    subst hz
    rfl
  rintro m E ⟨zs, a, x, y, rfl, hgo, ha, hcnt, rfl, hne⟩
  have hlen : zs.length ≤ tcnt d := by
    have h1 := tcnts_len ((zs.drop a).map (·.2))
    rw [List.length_map, List.length_drop] at h1
    omega
  have test : Pv (asB (m2 ltD (getV 2) (lenVE 1))) [.dat d, .own (zs.map pq), .dat (.int (a : Nat)), x, y, .un, .un] (decide (((a : Nat) : Int) < (((zs.map pq).length : Nat) : Int))) := pv_asB (pv_m2 (pv_get rfl) (pv_len (d := .list (zs.map pq)) rfl rfl) rfl)
  refine test.wp ?_
  by_cases hlt : a < zs.length
  · rw [if_pos (by rw [decide_eq_true_eq, List.length_map]; omega)]
    obtain ⟨ks, part, hz⟩ : ∃ ks part, zs[a]? = some (ks, part) := ⟨zs[a].1, zs[a].2, List.getElem?_eq_getElem hlt⟩
    have hg := hgo _ (List.mem_of_getElem? hz)
    have hq : (zs.map pq)[a]? = some (.tuple [pathD ks, part]) := by
      rw [List.getElem?_map, hz]
      rfl
    have drop : zs.drop a = (ks, part) :: zs.drop (a + 1) := by
      rw [List.drop_eq_getElem_cons hlt]
      congr 1
      rw [List.getElem?_eq_getElem hlt] at hz
      exact Option.some.inj hz
    have cnt2 : tcnts ((zs.drop a).map (·.2)) = tcnt part + tcnts ((zs.drop (a + 1)).map (·.2)) := by
      rw [drop]
      simp [tcnts]
    refine ws_seq (ws_asg ((pv_ixV (d := .list (zs.map pq)) rfl (pv_get rfl) (at_lst hq)).wp ⟨_, rfl, ?_⟩))
    show Ws _ [.dat d, .own (zs.map pq), .dat (.int (a : Nat)), .dat (pathD ks), .dat part, .un, .un] _
    refine ws_seq (ws_asg ((pv_m2 (z := .int ((a + 1 : Nat) : Int)) (pv_get rfl) (pv_ret _) (by show some (PyData.int (((a : Nat) : Int) + 1)) = some (PyData.int ((a + 1 : Nat) : Int)); congr 2)).wp ⟨_, rfl, ?_⟩))
    show Ws _ [.dat d, .own (zs.map pq), .dat (.int ((a + 1 : Nat) : Int)), .dat (pathD ks), .dat part, .un, .un] _
    have isT : Pv (asB (isiE "tuple" (getV 4))) [.dat d, .own (zs.map pq), .dat (.int ((a + 1 : Nat) : Int)), .dat (pathD ks), .dat part, .un, .un] (isiB "tuple" part) := pv_asB (pv_isi (pv_get rfl))
    have pos := tcnt_pos part
    have other : isiB "tuple" part = false → tcnt part = 1 → Ws (ifS (asB (isiE "tuple" (getV 4))) (exprS (mutV 1 extM (consA (frzE (lcE [5, 6] (.tp [.nm 5, .nm 6]) (enumE (consA (getV 4) nilA)) yesT (tupE (consA (m2 addD (getV 3) (tupE (consA (getV 5) nilA))) (consA (getV 6) nilA))))) nilA))) nxS)
        [.dat d, .own (zs.map pq), .dat (.int ((a + 1 : Nat) : Int)), .dat (pathD ks), .dat part, .un, .un] (fun o => match o with | .nx E2 => (∃ m, m < tcnt d - a ∧ ∃ (zs : List PP) (a : Nat) (x y : Sk), E2 = [.dat d, .own (zs.map pq), .dat (.int (a : Nat)), x, y, .un, .un] ∧ (∀ z ∈ zs, goP d z.1 = some z.2) ∧ a ≤ zs.length ∧ a + tcnts ((zs.drop a).map (·.2)) = tcnt d ∧ m = tcnt d - a ∧ zs ≠ []) | _ => False) := fun h1 h2 => by
      rw [h1] at isT
      refine ws_ifv isT (fun h => nomatch h) fun _ => ws_nx ⟨tcnt d - (a + 1), by omega, zs, a + 1, _, _, rfl, hgo, by omega, by omega, rfl, hne⟩
    have back : ∀ {g : SM} {E : En} {P : En → Prop} {R : Out → Prop}, Ws g E (fun o => match o with | .nx E2 => P E2 | _ => False) → (∀ E2, P E2 → R (.nx E2)) → Ws g E R := fun {g E P R} w k => w.imp fun o ho => by
      cases o with
      | nx E2 => exact k E2 ho
      | _ => exact ho.elim
    cases part with
    | tuple ps =>
      have hps : ps.length ≤ 1000 := Nat.le_trans (sm_tup.mp (goP_sm hg hd)).2 hb
      have hkl : ks.length + tcnt (.tuple ps) ≤ tcnt d := goP_len hg
      refine ws_ifv isT (fun _ => ?_) fun h => nomatch h
      have comp : Pv (frzE (lcE [5, 6] (.tp [.nm 5, .nm 6]) (enumE (consA (getV 4) nilA)) yesT (tupE (consA (m2 addD (getV 3) (tupE (consA (getV 5) nilA))) (consA (getV 6) nilA))))) [.dat d, .own (zs.map pq), .dat (.int ((a + 1 : Nat) : Int)), .dat (pathD ks), .dat (.tuple ps), .un, .un] (.list ((kids ks ps).map pq)) := by
        refine pv_frz (pv_mapI rfl (pv_enumT (pv_cons (pv_get rfl) pv_nil) (by omega)) (by rw [List.length_map, kids_len, enumL_len]) fun i q y hq hy => ?_)
        rw [List.getElem?_map] at hy
        cases hk : (kids ks ps)[i]? with
        | none =>
          rw [hk] at hy
          cases hy
        | some z =>
          rw [hk] at hy
          have ey := Option.some.inj hy
          subst ey
          obtain ⟨hi, rfl⟩ := kids_at hk
          have hpi : ps[i]? = some (ps.getD i .none) := by
            rw [List.getD_eq_getElem?_getD, List.getElem?_eq_getElem hi]
            rfl
          have e2 := enumL_get ps 0 i _ hpi
          rw [hq] at e2
          have e3 := Option.some.inj e2
          subst e3
          refine ⟨_, rfl, rfl, pv_tup (pv_cons (pv_m2 (pv_get rfl) (pv_tup (pv_cons (pv_get rfl) pv_nil) (by show 1 ≤ sizeLine; decide)) ?_) (pv_cons (pv_get rfl) pv_nil)) two_le⟩
          have e4 : pathD (ks ++ [i]) = .tuple ((ks.map fun k => PyData.int (k : Nat)) ++ [.int ((0 + i : Nat) : Int)]) := by
            unfold pathD
            rw [List.map_append, Nat.zero_add]
            rfl
          show addD (pathD ks) (.tuple [.int ((0 + i : Nat) : Int)]) = some (pathD (ks ++ [i]))
          rw [e4]
          exact add_tup (by simp; omega)
      refine ws_expr (wp_mut (ds0 := zs.map pq) rfl ((pv_cons comp pv_nil).wp ⟨zs.map pq, rfl, .none, zs.map pq ++ (kids ks ps).map pq, ?_, ?_⟩))
      · exact if_pos (size_le (by rw [List.length_map, List.length_map, kids_len]; omega))
      · refine ⟨tcnt d - (a + 1), by omega, zs ++ kids ks ps, a + 1, _, _, by rw [List.map_append]; rfl, fun z hz2 => ?_, by rw [List.length_append]; omega, ?_, rfl, by simp [hne]⟩
        · rcases List.mem_append.mp hz2 with h | h
          · exact hgo z h
          · obtain ⟨i, hi⟩ := List.getElem?_of_mem h
            obtain ⟨hil, rfl⟩ := kids_at hi
            refine goP_snoc (d := d) hg rfl ?_
            rw [List.getD_eq_getElem?_getD, List.getElem?_eq_getElem hil]
            rfl
        · rw [List.drop_append_of_le_length (by omega), List.map_append, tcnts_app, kids_snd]
          rw [tcnt_tup] at cnt2
          omega
    | _ => exact back (other rfl rfl) fun E2 h => h
  · rw [if_neg (by rw [decide_eq_true_eq, List.length_map]; omega)]
    refine ws_ret ?_
    rw [wp_frz]
    refine wp_map ?_
    rw [wp_itF, wp_getV]
    refine ⟨zs.map pq, rfl, ?_, fun q => match q with | .tuple (p :: _) => p | q => q, fun q hq => ?_, ?_⟩
    · refine List.all_eq_true.mpr fun q hq => ?_
      obtain ⟨z, _, rfl⟩ := List.mem_map.mp hq
      rfl
    · obtain ⟨z, _, rfl⟩ := List.mem_map.mp hq
      exact ⟨_, rfl, (pv_get rfl).wp ⟨rfl, rfl⟩⟩
    · refine ⟨zs, _, congrArg (fun l => Out.rt (.list l) _) ?_, hne, by omega, hgo⟩
      rw [List.map_map]
      rfl
end K19

set_option maxHeartbeats 4000000
namespace K19
open PySem PySem.Spec PyProof.Rows L2 He Sa NdefX RZ
structure OddOk (b : Nat) (part d : PyData) : Prop where
  sm : smD (b + 1) d = true
  dep : tdep d ≤ max (tdep part) 2
  cnt : tcnt d ≤ 2 * tcnt part + 10
theorem cut_fromG {ds : List PyData} {a : Nat} : cutL ds (some (a : Nat)) none = ds.drop a := by
  unfold cutL
  rw [HT.sIx_nat, HT.sIx_none]
  rcases Nat.le_total a ds.length with h | h
  · rw [Nat.min_eq_left h]
    exact List.take_of_length_le (by rw [List.length_drop]; omega)
  · rw [Nat.min_eq_right h, List.drop_length, List.drop_eq_nil_of_le h]
    simp
theorem cut_midG {ds : List PyData} {a b : Nat} (h : a ≤ b) : cutL ds (some (a : Nat)) (some (b : Nat)) = (ds.drop a).take (b - a) := by
  unfold cutL
  rw [HT.sIx_nat, HT.sIx_nat]
  rcases Nat.le_total a ds.length with h1 | h1
  · rw [Nat.min_eq_left h1]
    rcases Nat.le_total b ds.length with h2 | h2
    · rw [Nat.min_eq_left h2]
    · rw [Nat.min_eq_right h2, List.take_of_length_le (l := ds.drop a) (i := ds.length - a) (by rw [List.length_drop]; omega), List.take_of_length_le (by rw [List.length_drop]; omega)]
  · rw [Nat.min_eq_right h1, List.drop_length, List.drop_eq_nil_of_le h1]
    simp
theorem tdeps_le {m : Nat} : ∀ {l : List PyData}, (∀ x ∈ l, tdep x ≤ m) → tdeps l ≤ m
  | [], _ => by simp [tdeps]
  | x :: l, h => by
    have h1 := h x List.mem_cons_self
    have h2 := tdeps_le (l := l) fun y hy => h y (List.mem_cons_of_mem _ hy)
    simp only [tdeps]
    omega
theorem tdeps_mem : ∀ {l : List PyData} {x : PyData}, x ∈ l → tdep x ≤ tdeps l
  | y :: l, x, h => by
    simp only [tdeps]
    rcases List.mem_cons.mp h with rfl | h
    · omega
    · have := tdeps_mem h
      omega
theorem tcnts_take (l : List PyData) (k : Nat) : tcnts (l.take k) + tcnts (l.drop k) = tcnts l := by
  rw [← tcnts_app, List.take_append_drop]
theorem tcnts_sub {l : List PyData} (k m : Nat) : tcnts ((l.drop k).take m) ≤ tcnts l := by
  have h1 := tcnts_take l k
  have h2 := tcnts_take (l.drop k) m
  omega
/-- of the same items, no longer than b + 1 -/
theorem odd_tup {b : Nat} {ps qs : List PyData} (q : smD b (.tuple ps) = true) (h : ∀ x ∈ qs, x ∈ ps) (hl : qs.length ≤ b + 1) (hc : tcnts qs ≤ 2 * tcnts ps) : OddOk b (.tuple ps) (.tuple qs) := by
  refine ⟨sm_tup.mpr ⟨fun x hx => sm_more (Nat.le_succ b) x ((sm_tup.mp q).1 x (h x hx)), hl⟩, ?_, ?_⟩
  · rw [tdep_tup, tdep_tup]
    have := tdeps_le (m := tdeps ps) fun x hx => tdeps_mem (h x hx)
    omega
  · rw [tcnt_tup, tcnt_tup]
    omega
def oddC : List PyData := [.none, .int 5, .bool true, .str "zzzzzzzz", .tuple [], .list [], .dict [], .tuple [.str "call", .str "a", .tuple [.str "b"]], .tuple [.none], .int (-1)]
theorem strOks : PyData.strOk "zzzzzzzz" = true ∧ PyData.strOk "call" = true ∧ PyData.strOk "a" = true ∧ PyData.strOk "b" = true ∧ PyData.strOk "" = true ∧ PyData.strOk "Abc" = true ∧ PyData.strOk "a1" = true ∧ PyData.strOk "abcdefghi" = true ∧ PyData.strOk "x" = true := by decide +kernel
theorem lens : ("zzzzzzzz" : Str).length = 8 ∧ ("call" : Str).length = 4 ∧ ("a" : Str).length = 1 ∧ ("b" : Str).length = 1 ∧ ("" : Str).length = 0 ∧ ("Abc" : Str).length = 3 ∧ ("a1" : Str).length = 2 ∧ ("abcdefghi" : Str).length = 9 ∧ ("x" : Str).length = 1 := by decide +kernel
theorem oddC_ok {b : Nat} (hb : 9 ≤ b) {part : PyData} : ∀ d ∈ oddC, OddOk b part d := by
  obtain ⟨s1, s2, s3, s4, _⟩ := strOks
  obtain ⟨l1, l2, l3, l4, _⟩ := lens
  have hp := tcnt_pos part
  intro d hd
  unfold oddC at hd
  simp only [List.mem_cons, List.not_mem_nil, or_false] at hd
  rcases hd with rfl | rfl | rfl | rfl | rfl | rfl | rfl | rfl | rfl | rfl <;> refine ⟨?_, ?_, ?_⟩ <;> simp [smD, smAll, tdep, tdeps, tcnt, tcnts, s1, s2, s3, s4, l1, l2, l3, l4] <;> omega
theorem oddC_pv (E : En) : Pv (frzE (lstE (consA (ret .none) (consA (ret (.int 5)) (consA (ret (.bool true)) (consA (ret (.str "zzzzzzzz")) (consA (tupE nilA) (consA (frzE (lstE nilA)) (consA (ret (.dict [])) (consA (tupE (consA (ret (.str "call")) (consA (ret (.str "a")) (consA (tupE (consA (ret (.str "b")) nilA)) nilA)))) (consA (tupE (consA (ret .none) nilA)) (consA (m1 negD (ret (.int 1))) nilA)))))))))))) E (.list oddC) := by
  have one : 1 ≤ sizeLine := by decide
  have three : 3 ≤ sizeLine := by decide
  refine pv_frz (pv_lst (pv_cons (pv_ret _) (pv_cons (pv_ret _) (pv_cons (pv_ret _) (pv_cons (pv_ret _) (pv_cons (pv_tup pv_nil (Nat.zero_le _)) (pv_cons (pv_frz (pv_lst pv_nil (Nat.zero_le _))) (pv_cons (pv_ret _) (pv_cons (pv_tup (pv_cons (pv_ret _) (pv_cons (pv_ret _) (pv_cons (pv_tup (pv_cons (pv_ret _) pv_nil) one) pv_nil))) three) (pv_cons (pv_tup (pv_cons (pv_ret _) pv_nil) one) (pv_cons (pv_m1 (pv_ret _) rfl) pv_nil)))))))))) ?_)
  show 10 ≤ sizeLine
  decide
theorem pick_C {E : En} {p : DrA} {s : DrS} {n : Nat} {ds : List PyData} {f : M PyData} {C : PyData → Prop} {R : Out → Prop} (h0 : E[0]? = some (.drw p s)) (hf : Pv f E (.list ds)) (ne : ds ≠ []) (hl : ds.length < 1073741824) (hC : ∀ d ∈ ds, C d) (hd : Dk n s) (hn : n + 1 < 1000000000000)
    (k : ∀ d s', C d → Dk (n + 1) s' → R (.rt d (E.set 0 (.drw p s')))) : Ws (retS (callW m_pick 0 (consA f nilA))) E R :=
  ws_ret (wp_draw h0 (pv_cons hf pv_nil) (pick_spec ne hl) hd hn fun d s' hm hd' => k d s' (hC d hm) hd')
theorem pv_and_f {E : En} {f g : M Bool} {a : Bool} (h1 : Pv f E a) (e : a = false) : Pv (andT f g) E false := by
  subst e
  exact pv_and (b := true) h1 fun h => nomatch h
theorem pv_and_t {E : En} {f g : M Bool} {a b : Bool} (h1 : Pv f E a) (e : a = true) (h2 : Pv g E b) : Pv (andT f g) E b := by
  subst e
  exact pv_and h1 fun _ => h2
end K19

set_option maxHeartbeats 4000000
namespace K19
open PySem PySem.Spec PyProof.Rows L2 He Sa NdefX RZ
def oddS (x : Str) : List PyData := [.str "", .str "Abc", .str "a1", .str "call", .str "abcdefghi", .str (x ++ "x"), .tuple [.str x]]
def oddI (i : Int) : List PyData := [.int (i + 1), .int (i - 1), .int (-1), .int 0, .int 1, .bool true, .bool false, .str (toString i)]
theorem ok_app {x y : Str} (h1 : PyData.strOk x = true) (h2 : PyData.strOk y = true) : PyData.strOk (x ++ y) = true := by
  unfold PyData.strOk at *
  show ((x.cps ++ y.cps).all _) = true
  rw [Array.all_append, h1, h2]
  rfl
theorem len_app (x y : Str) : (x ++ y).length = x.length + y.length := by
  show (x.cps ++ y.cps).size = _
  exact Array.size_append
theorem oddS_ok {b : Nat} (hb : 9 ≤ b) {x : Str} (q : smD b (.str x) = true) : ∀ d ∈ oddS x, OddOk b (.str x) d := by
  obtain ⟨_, s2, _, _, s5, s6, s7, s8, s9⟩ := strOks
  obtain ⟨_, l2, _, _, l5, l6, l7, l8, l9⟩ := lens
  obtain ⟨q1, q2⟩ := sm_str.mp q
  have hx := ok_app q1 s9
  have hl := len_app x "x"
  rw [l9] at hl
  intro d hd
  unfold oddS at hd
  simp only [List.mem_cons, List.not_mem_nil, or_false] at hd
  rcases hd with rfl | rfl | rfl | rfl | rfl | rfl | rfl <;> refine ⟨?_, ?_, ?_⟩ <;> simp [smD, smAll, tdep, tdeps, tcnt, tcnts, s2, s5, s6, s7, s8, l2, l5, l6, l7, l8, q1, hx, hl] <;> omega
theorem strs_int : (List.range 41).all (fun k => PyData.strOk (toString (((k : Nat) : Int) - 20)) && (decide ((toString (((k : Nat) : Int) - 20) : Str).length ≤ 3) && decide ((((k : Nat) : Int) - 20).natAbs.log2 < 1920))) = true := by decide +kernel
theorem str_int {i : Int} (h : i.natAbs ≤ 20) : PyData.strOk (toString i) = true ∧ (toString i : Str).length ≤ 3 ∧ i.natAbs.log2 < 1920 := by
  have h1 := List.all_eq_true.mp strs_int (i + 20).toNat (List.mem_range.mpr (by omega))
  have e : (((i + 20).toNat : Nat) : Int) - 20 = i := by omega
  rw [e, Bool.and_eq_true, Bool.and_eq_true, decide_eq_true_eq, decide_eq_true_eq] at h1
  exact h1
theorem oddI_ok {b : Nat} (hb : 9 ≤ b) (hb2 : b ≤ 20) {i : Int} (q : smD b (.int i) = true) : ∀ d ∈ oddI i, OddOk b (.int i) d := by
  have hi := sm_int.mp q
  obtain ⟨h1, h2, _⟩ := str_int (i := i) (by omega)
  intro d hd
  unfold oddI at hd
  simp only [List.mem_cons, List.not_mem_nil, or_false] at hd
  have num : ∀ j : Int, j.natAbs ≤ b + 1 → OddOk b (.int i) (.int j) := fun j hj => ⟨sm_int.mpr hj, by simp [tdep], by simp [tcnt]⟩
  rcases hd with rfl | rfl | rfl | rfl | rfl | rfl | rfl | rfl
  · exact num _ (by omega)
  · exact num _ (by omega)
  · exact num _ (by omega)
  · exact num _ (by omega)
  · exact num _ (by omega)
  · exact ⟨rfl, by simp [tdep], by simp [tcnt]⟩
  · exact ⟨rfl, by simp [tdep], by simp [tcnt]⟩
  · exact ⟨sm_str.mpr ⟨h1, by omega⟩, by simp [tdep], by simp [tcnt]⟩
def oddT (ps : List PyData) (a : Nat) : List PyData := [.tuple (ps.take a ++ ps.drop (a + 1)), .tuple (ps.take a ++ (ps.drop a).take 1 ++ ps.drop a), .tuple ps.reverse, .list ps, .tuple (ps ++ [.none]), .tuple []]
theorem oddT_ok {b : Nat} {ps : List PyData} {a : Nat} (q : smD b (.tuple ps) = true) (ha : a ≤ ps.length) : ∀ d ∈ oddT ps a, OddOk b (.tuple ps) d := by
  have ql := (sm_tup.mp q).2
  have qa := (sm_tup.mp q).1
  have c1 := tcnts_take ps a
  have c2 := tcnts_take ps (a + 1)
  intro d hd
  unfold oddT at hd
  simp only [List.mem_cons, List.not_mem_nil, or_false] at hd
  rcases hd with rfl | rfl | rfl | rfl | rfl | rfl
  · refine odd_tup q (fun x hx => ?_) ?_ ?_
    · rcases List.mem_append.mp hx with h | h
      · exact List.mem_of_mem_take h
      · exact List.mem_of_mem_drop h
    · simp
      omega
    · rw [tcnts_app]
      omega
  · refine odd_tup q (fun x hx => ?_) ?_ ?_
    · rcases List.mem_append.mp hx with h | h
      · rcases List.mem_append.mp h with h | h
        · exact List.mem_of_mem_take h
        · exact List.mem_of_mem_drop (List.mem_of_mem_take h)
      · exact List.mem_of_mem_drop h
    · simp
      omega
    · have := tcnts_sub (l := ps) a 1
      rw [tcnts_app, tcnts_app]
      omega
  · refine odd_tup q (fun x hx => List.mem_reverse.mp hx) (by simp; omega) ?_
    have rev : ∀ l : List PyData, tcnts l.reverse = tcnts l := by
      intro l
      induction l with
      | nil => rfl
      | cons x l ih =>
        rw [List.reverse_cons, tcnts_app, ih]
        simp [tcnts]
        omega
    rw [rev]
    omega
  · refine ⟨sm_lst.mpr ⟨fun x hx => sm_more (Nat.le_succ b) x (qa x hx), by omega⟩, ?_, ?_⟩
    · simp [tdep]
    · simp [tcnt]
  · refine ⟨sm_tup.mpr ⟨fun x hx => ?_, by simp; omega⟩, ?_, ?_⟩
    · rcases List.mem_append.mp hx with h | h
      · exact sm_more (Nat.le_succ b) x (qa x h)
      · rw [List.mem_singleton] at h
        subst h
        rfl
    · rw [tdep_tup, tdep_tup, tdeps_app]
      simp [tdeps, tdep] <;> omega
    · rw [tcnt_tup, tcnt_tup, tcnts_app]
      simp [tcnts, tcnt] <;> omega
  · refine ⟨by simp [smD, smAll], by simp [tdep, tdeps]; omega, by simp [tcnt, tcnts]⟩
theorem odd_spec {b : Nat} (hb : 9 ≤ b) (hb2 : b ≤ 20) {part : PyData} {names : List PyData} (q : smD b part = true) (hn : names.length ≤ 1000) (hq : ∀ x ∈ names, OddOk b part x) : Spec m_odd [part, .list names] 3 (OddOk b part) := by
  refine fnW_spec rfl fun p n s hd hlim => ?_
  show Ws g_odd [.drw p s, .dat part, .dat (.list names), .un, .un] _
  -- the end: one of ten
  have last : ∀ (s1 : DrS) (x y : Sk), Dk (n + 1) s1 → Ws (retS (callW m_pick 0 (consA (frzE (lstE (consA (ret .none) (consA (ret (.int 5)) (consA (ret (.bool true)) (consA (ret (.str "zzzzzzzz")) (consA (tupE nilA) (consA (frzE (lstE nilA)) (consA (ret (.dict [])) (consA (tupE (consA (ret (.str "call")) (consA (ret (.str "a")) (consA (tupE (consA (ret (.str "b")) nilA)) nilA)))) (consA (tupE (consA (ret .none) nilA)) (consA (m1 negD (ret (.int 1))) nilA)))))))))))) nilA)))
      [.drw p s1, .dat part, .dat (.list names), x, y] (fun o => match o with
        | .rt z E => ∃ s' E', E = .drw p s' :: E' ∧ OddOk b part z ∧ Dk (n + 3) s'
        | _ => False) := fun s1 x y h1 =>
    pick_C (ds := oddC) (C := OddOk b part) rfl (oddC_pv _) (by simp [oddC]) (by simp [oddC]) (oddC_ok hb) h1 (by omega) fun d s' hC hd' => ⟨s', _, rfl, hC, hd'.mono (by omega)⟩
  have take3 : ∀ (s1 : DrS) (x y : Sk) {Q : Bool → En → Prop}, Dk n s1 → (∀ s2 v, Dk (n + 1) s2 → Q v [.drw p s2, .dat part, .dat (.list names), x, y]) → Wp (asB (m2 gtD (callW m_take 0 (consA (ret (.int 3)) nilA)) (ret (.int 0)))) [.drw p s1, .dat part, .dat (.list names), x, y] Q := fun s1 x y {Q} h1 k => by
    rw [wp_asBi, wp_m2]
    refine wp_draw rfl (pv_cons (pv_ret _) pv_nil) (take_spec 3 (by decide) (by decide)) h1 (by omega) fun d s2 ⟨v, ev, _⟩ h2 => ?_
    subst ev
    refine (pv_ret _).wp ⟨_, rfl, ?_⟩
    exact k s2 _ h2
  unfold g_odd
  refine ws_seq (ws_if ?_)
  rw [wp_andT]
  refine (pv_asB (pv_isi (T := "tuple") (pv_get rfl))).wp ?_
  cases part with
  | tuple ps =>
    have ql := (sm_tup.mp q).2
    refine take3 s _ _ hd fun s1 v h1 => ?_
    cases v with
    | false => exact ws_nx (ws_seq (ws_ifv (b := false) (pv_and_f (pv_asB (pv_isi (T := "str") (pv_get rfl))) rfl) (fun h => nomatch h) fun _ => ws_nx (ws_seq (ws_ifv (b := false) (pv_and_f (pv_asB (pv_isi (T := "int") (pv_get rfl))) rfl) (fun h => nomatch h) fun _ => ws_nx (last s1 _ _ h1)))))
    | true =>
      refine ws_seq (ws_asg ?_)
      have ln : Pv (m2 addD (lenVE 1) (ret (.int 1))) [.drw p s1, .dat (.tuple ps), .dat (.list names), .un, .un] (.int ((ps.length + 1 : Nat) : Int)) := pv_m2 (pv_len (d := .tuple ps) rfl rfl) (pv_ret _) (by show some (PyData.int (((ps.length : Nat) : Int) + 1)) = some (PyData.int ((ps.length + 1 : Nat) : Int)); congr 2)
      refine wp_draw rfl (pv_cons ln pv_nil) (take_spec (ps.length + 1) (by omega) (by omega)) h1 (by omega) fun d s2 ⟨a, ea, ha⟩ h2 => ?_
      subst ea
      refine ⟨_, rfl, ?_⟩
      show Ws _ [.drw p s2, .dat (.tuple ps), .dat (.list names), .dat (.int (a : Nat)), .un] _
      have at_ : Pv (getV 3) [.drw p s2, .dat (.tuple ps), .dat (.list names), .dat (.int (a : Nat)), .un] (.int (a : Nat)) := pv_get rfl
      have at1 : Pv (m2 addD (getV 3) (ret (.int 1))) [.drw p s2, .dat (.tuple ps), .dat (.list names), .dat (.int (a : Nat)), .un] (.int ((a + 1 : Nat) : Int)) := pv_m2 at_ (pv_ret _) (by show some (PyData.int (((a : Nat) : Int) + 1)) = some (PyData.int ((a + 1 : Nat) : Int)); congr 2)
      have pt : Pv (getV 1) [.drw p s2, .dat (.tuple ps), .dat (.list names), .dat (.int (a : Nat)), .un] (.tuple ps) := pv_get rfl
      have e1 : Pv (slE (getV 1) noneO (someO (getV 3))) [.drw p s2, .dat (.tuple ps), .dat (.list names), .dat (.int (a : Nat)), .un] (.tuple (ps.take a)) := pv_sl pt pv_none (pv_some at_) (by show some (PyData.tuple (cutL ps none (some ((a : Nat) : Int)))) = _; rw [cut_to (by omega)])
      have e2 : Pv (slE (getV 1) (someO (m2 addD (getV 3) (ret (.int 1)))) noneO) [.drw p s2, .dat (.tuple ps), .dat (.list names), .dat (.int (a : Nat)), .un] (.tuple (ps.drop (a + 1))) := pv_sl pt (pv_some at1) pv_none (by show some (PyData.tuple (cutL ps (some ((a + 1 : Nat) : Int)) none)) = _; rw [cut_fromG])
      have e3 : Pv (slE (getV 1) (someO (getV 3)) (someO (m2 addD (getV 3) (ret (.int 1))))) [.drw p s2, .dat (.tuple ps), .dat (.list names), .dat (.int (a : Nat)), .un] (.tuple ((ps.drop a).take 1)) := pv_sl pt (pv_some at_) (pv_some at1) (by
        show some (PyData.tuple (cutL ps (some ((a : Nat) : Int)) (some ((a + 1 : Nat) : Int)))) = _
        rw [cut_midG (by omega)]
        congr 3
        omega)
      have e4 : Pv (slE (getV 1) (someO (getV 3)) noneO) [.drw p s2, .dat (.tuple ps), .dat (.list names), .dat (.int (a : Nat)), .un] (.tuple (ps.drop a)) := pv_sl pt (pv_some at_) pv_none (by show some (PyData.tuple (cutL ps (some ((a : Nat) : Int)) none)) = _; rw [cut_fromG])
      have e5 : Pv (revE (getV 1)) [.drw p s2, .dat (.tuple ps), .dat (.list names), .dat (.int (a : Nat)), .un] (.tuple ps.reverse) := pv_bnd pt rfl
      have e6 : Pv (frzE (listQ (lookV 1))) [.drw p s2, .dat (.tuple ps), .dat (.list names), .dat (.int (a : Nat)), .un] (.list ps) := pv_frz (pv_bnd (a := (true, ps)) rfl rfl)
      have one : 1 ≤ sizeLine := by decide
      refine ws_seq (ws_own ((pv_lst (ds := oddT ps a) (pv_cons (pv_m2 e1 e2 (add_tup (by simp; omega))) (pv_cons (pv_m2 (pv_m2 e1 e3 (add_tup (by simp; omega))) e4 (add_tup (by simp; omega))) (pv_cons e5 (pv_cons e6 (pv_cons (pv_m2 pt (pv_tup (pv_cons (pv_ret _) pv_nil) one) (add_tup (by simp; omega))) (pv_cons (pv_tup pv_nil (Nat.zero_le _)) pv_nil)))))) (by show 6 ≤ sizeLine; decide)).wp ?_))
      refine ws_ret (wp_callW rfl ?_)
      rw [wp_cons, wp_getV]
      show Wp nilA [.drw p s2, .dat (.tuple ps), .dat (.list names), .dat (.int (a : Nat)), .dat (.list (oddT ps a))] _
      rw [wp_nil]
      obtain ⟨d, s', e, hm, hd'⟩ := pick_spec (ds := oddT ps a) (by simp [oddT]) (by simp [oddT]) p (n + 2) s2 h2 (by omega)
      exact ⟨p, s2, rfl, d, s', e, s', _, rfl, oddT_ok q (by omega) d hm, hd'.mono (by omega)⟩
  | str x =>
    obtain ⟨q1, q2⟩ := sm_str.mp q
    refine ws_nx (ws_seq (ws_if ?_))
    rw [wp_andT]
    refine (pv_asB (pv_isi (T := "str") (pv_get rfl))).wp ?_
    refine take3 s _ _ hd fun s1 v h1 => ?_
    cases v with
    | false => exact ws_nx (ws_seq (ws_ifv (b := false) (pv_and_f (pv_asB (pv_isi (T := "int") (pv_get rfl))) rfl) (fun h => nomatch h) fun _ => ws_nx (last s1 _ _ h1)))
    | true =>
      have one : 1 ≤ sizeLine := by decide
      have ex : Pv (m2 addD (getV 1) (ret (.str "x"))) [.drw p s1, .dat (.str x), .dat (.list names), .un, .un] (.str (x ++ "x")) := pv_m2 (pv_get rfl) (pv_ret _) (if_pos (size_le (by have := lens.2.2.2.2.2.2.2.2; omega)))
      refine pick_C (ds := names ++ oddS x) (C := OddOk b (.str x)) rfl (pv_m2 (pv_get rfl) (pv_frz (pv_lst (ds := oddS x) (pv_cons (pv_ret _) (pv_cons (pv_ret _) (pv_cons (pv_ret _) (pv_cons (pv_ret _) (pv_cons (pv_ret _) (pv_cons ex (pv_cons (pv_tup (pv_cons (pv_get rfl) pv_nil) one) pv_nil))))))) (by show 7 ≤ sizeLine; decide))) (add_lst (by simp [oddS]; omega))) (by simp [oddS]) (by simp [oddS]; omega) (fun d hm => ?_) h1 (by omega) fun d s' hC hd' => ⟨s', _, rfl, hC, hd'.mono (by omega)⟩
      rcases List.mem_append.mp hm with h | h
      · exact hq d h
      · exact oddS_ok hb q d h
  | int i =>
    refine ws_nx (ws_seq (ws_ifv (b := false) (pv_and_f (pv_asB (pv_isi (T := "str") (pv_get rfl))) rfl) (fun h => nomatch h) fun _ => ws_nx (ws_seq (ws_if ?_))))
    rw [wp_andT]
    refine (pv_asB (pv_isi (T := "int") (pv_get rfl))).wp ?_
    show Wp _ _ _
    rw [wp_andT]
    refine (pv_not (pv_asB (pv_isi (T := "bool") (pv_get rfl)))).wp ?_
    refine take3 s _ _ hd fun s1 v h1 => ?_
    cases v with
    | false => exact ws_nx (last s1 _ _ h1)
    | true =>
      have hi := sm_int.mp q
      have e8 : Pv (calE (c1 strD) (consA (getV 1) nilA)) [.drw p s1, .dat (.int i), .dat (.list names), .un, .un] (.str (toString i)) := pv_calE (pv_cons (pv_get rfl) pv_nil) (if_pos (str_int (by omega)).2.2)
      exact pick_C (ds := oddI i) (C := OddOk b (.int i)) rfl (pv_frz (pv_lst (ds := oddI i) (pv_cons (pv_m2 (pv_get rfl) (pv_ret _) rfl) (pv_cons (pv_m2 (pv_get rfl) (pv_ret _) rfl) (pv_cons (pv_m1 (pv_ret _) rfl) (pv_cons (pv_ret _) (pv_cons (pv_ret _) (pv_cons (pv_ret _) (pv_cons (pv_ret _) (pv_cons e8 pv_nil)))))))) (by show 8 ≤ sizeLine; decide))) (by simp [oddI]) (by simp [oddI]) (oddI_ok hb hb2 q) h1 (by omega) fun d s' hC hd' => ⟨s', _, rfl, hC, hd'.mono (by omega)⟩
  | _ =>
    refine ws_nx (ws_seq (ws_ifv (b := false) (pv_and_f (pv_asB (pv_isi (T := "str") (pv_get rfl))) rfl) (fun h => nomatch h) fun _ => ws_nx (ws_seq (ws_ifv (b := false) ?_ (fun h => nomatch h) fun _ => ws_nx (last s _ _ (hd.mono (by omega)))))))
    first
      | exact pv_and_f (pv_asB (pv_isi (T := "int") (pv_get rfl))) rfl
      | exact pv_and_t (pv_asB (pv_isi (T := "int") (pv_get rfl))) rfl (pv_and_f (pv_not (pv_asB (pv_isi (T := "bool") (pv_get rfl)))) rfl)
end K19

set_option maxHeartbeats 4000000
namespace K19
open PySem PySem.Spec PyProof.Rows L2 He Sa NdefX RZ
/-- names to take a part's place: short texts -/
def NmL (b : Nat) (names : List PyData) : Prop := names.length ≤ 1000 ∧ ∀ x ∈ names, ∃ s, x = .str s ∧ smD b x = true
structure BentOk (b : Nat) (d r : PyData) : Prop where
  sm : smD (b + 1) r = true
  dep : tdep r ≤ tdep d + 2
  cnt : tcnt r ≤ 3 * tcnt d + 10
theorem bent_spec {b : Nat} (hb : 9 ≤ b) (hb2 : b ≤ 20) {d : PyData} {names : List PyData} (q : smD b d = true) (hc : tcnt d ≤ 10000) (hdp : tdep d ≤ 14) (hn : NmL b names) : Spec m_bent [d, .list names] 4 (BentOk b d) := by
  refine fnW_spec rfl fun p n s hd hlim => ?_
  show Ws g_bent [.drw p s, .dat d, .dat (.list names), .un] _
  unfold g_bent
  obtain ⟨zs, hz, zne, zl, zg⟩ := p_places (b := b) (d := d) (by omega) q (by omega)
  refine ws_seq (ws_asg (wp_draw rfl (pv_cons (pv_call (pv_cons (pv_get rfl) pv_nil) hz) pv_nil) (pick_spec (by simpa using zne) (by rw [List.length_map]; omega)) hd (by omega) fun path s1 hm h1 => ?_))
  obtain ⟨z, hzm, rfl⟩ := List.mem_map.mp hm
  have hg := zg z hzm
  obtain ⟨ks, part⟩ := z
  have hg : goP d ks = some part := hg
  refine ⟨_, rfl, ?_⟩
  show Ws _ [.drw p s1, .dat d, .dat (.list names), .dat (pathD ks)] _
  obtain ⟨g1, g2⟩ := goP_dep hg
  have qp := goP_sm hg q
  refine ws_ret (wp_callE ?_)
  rw [wp_cons]
  refine (pv_get rfl).wp ?_
  rw [wp_cons]
  refine (pv_get rfl).wp ?_
  rw [wp_cons]
  refine wp_draw rfl (pv_cons (pv_call (pv_cons (pv_get rfl) (pv_cons (pv_get rfl) pv_nil)) (p_part_at hg)) (pv_cons (pv_get rfl) pv_nil)) (odd_spec hb hb2 qp hn.1 fun x hx => ?_) h1 (by omega) fun o s2 ho h2 => ?_
  · obtain ⟨t, rfl, ht⟩ := hn.2 x hx
    exact ⟨sm_more (Nat.le_succ b) _ ht, by simp [tdep], by simp [tcnt]⟩
  · rw [wp_nil]
    obtain ⟨p1, p2, p3⟩ := putP_ok ho.sm hg (sm_more (Nat.le_succ b) _ q)
    have hod := ho.dep
    have hoc := ho.cnt
    exact ⟨_, p_put_at (b := b) (by omega) 15 hg q (by omega), s2, _, rfl, ⟨p1, by omega, by omega⟩, h2⟩
theorem p_all_names {cs : List PyData} (h : HouseD cs) : ∃ L, m_all_names [hs cs] = some (.ok (.list L)) ∧ NmL 9 L := by
  suffices w : Ws g_all_names [.dat (hs cs), .un, .un, .un, .un] (fun o => ∃ L E, o = .rt (.list L) E ∧ NmL 9 L) by
    obtain ⟨o, e, L, E, rfl, hL⟩ := w
    exact ⟨L, fnD_ok rfl ⟨_, e, rfl⟩, hL⟩
  unfold g_all_names
  have nm : ∀ x : Str, nameB (.str x) = true → x.length ≤ 3 → ∃ s, PyData.str x = .str s ∧ smD 9 (.str x) = true := fun x h1 h2 => ⟨x, rfl, sm_str.mpr ⟨name_ok h1, by omega⟩⟩
  refine ws_seq (ws_own ((pv_lst pv_nil (Nat.zero_le _)).wp ?_))
  have fit : cs.all (fitT (.tp [.nm 2, .nm 3, .nm 4])) = true := List.all_eq_true.mpr fun c hc => by
    obtain ⟨x, ds, rfl, _⟩ := h.all c hc
    rfl
  have few := h.few
  refine ws_seq (ws_for ((pv_itF (pv_ixV rfl (pv_ret _) (ix_tup (i := 1) (d := .tuple cs) rfl)) rfl fit).wp ⟨fun i E => ∃ L x a b c, E = [.dat (hs cs), x, a, b, c] ∧ (x = .own L ∨ x = .dat (.list L)) ∧ L.length ≤ 4 * i ∧ ∀ y ∈ L, ∃ s, y = .str s ∧ smD 9 y = true, ⟨[], _, _, _, _, rfl, .inl rfl, Nat.zero_le _, fun y h => nomatch h⟩, ?_, ?_⟩))
  · rintro i E c hc ⟨L, x, a, b, c', rfl, hx, hl, hall⟩
    obtain ⟨nx, ds, rfl, h1, h2, okd, d1, d3⟩ := h.all c (List.mem_of_getElem? hc)
    have hi := (List.getElem?_eq_some_iff.mp hc).1
    refine ⟨_, rfl, ws_asg ?_⟩
    show Wp _ [.dat (hs cs), x, .dat (.str "call"), .dat (.str nx), .dat (.tuple ds)] _
    rw [wp_m2, wp_m2]
    have key : Wp (getV 1) [.dat (hs cs), x, .dat (.str "call"), .dat (.str nx), .dat (.tuple ds)] fun d E => d = .list L ∧ E = [.dat (hs cs), .dat (.list L), .dat (.str "call"), .dat (.str nx), .dat (.tuple ds)] := by
      rw [wp_getV]
      rcases hx with rfl | rfl <;> exact ⟨rfl, rfl⟩
    refine key.imp fun d E ⟨e1, e2⟩ => ?_
    subst e1
    subst e2
    have one : 1 ≤ sizeLine := by decide
    refine (pv_frz (pv_lst (pv_cons (pv_get rfl) pv_nil) one)).wp ⟨_, add_lst (by simp; omega), ?_⟩
    have told : Pv (frzE (listQ (lookV 4))) [.dat (hs cs), .dat (.list L), .dat (.str "call"), .dat (.str nx), .dat (.tuple ds)] (.list ds) := pv_frz (pv_bnd (a := (true, ds)) (b := ds) rfl rfl)
    refine told.wp ⟨_, add_lst (by simp; omega), _, rfl, L ++ [.str nx] ++ ds, _, _, _, _, rfl, .inr rfl, by simp; omega, fun y hy => ?_⟩
    rcases List.mem_append.mp hy with hy | hy
    · rcases List.mem_append.mp hy with hy | hy
      · exact hall y hy
      · rw [List.mem_singleton] at hy
        subst hy
        exact nm nx h1 h2
    · have hb := List.all_eq_true.mp okd.all y hy
      obtain ⟨t, rfl⟩ := name_str hb
      exact nm t hb (okd.few _ hy t rfl)
  · rintro E ⟨L, x, a, b, c', rfl, hx, hl, hall⟩
    refine ws_ret ?_
    rw [wp_getV]
    rcases hx with rfl | rfl
    · exact ⟨L, _, rfl, by omega, hall⟩
    · exact ⟨L, _, rfl, by omega, hall⟩
/-! what is no word -/
theorem fit_word {ws : List PyData} {cs : List PyData} (h : HouseD cs) (hw : ws.all (callNameB cs) = true) (hl : ws.length ≤ 90000) : fitD (.tuple ws) = true := fit_tup_of (fun x hx => by
  have hx := List.all_eq_true.mp hw x hx
  cases x with
  | str y =>
    obtain ⟨i, hi⟩ := mem_at h.ok.names hx
    obtain ⟨c, hc, e⟩ := List.mem_map.mp (List.mem_of_getElem? hi)
    obtain ⟨nx, ds, rfl, h1, h2, _⟩ := h.all c hc
    have e : nx = y := by simpa [nameOf, part] using e
    subst e
    simp [fitD, name_ok h1]
    omega
  | _ => cases hx) (by omega)
theorem names_small {cs : List PyData} (h : HouseD cs) {y : Str} (hy : memS y (cs.map nameOf) = true) : nameB (.str y) = true ∧ y.length ≤ 3 := by
  obtain ⟨i, hi⟩ := mem_at h.ok.names hy
  obtain ⟨c, hc, e⟩ := List.mem_map.mp (List.mem_of_getElem? hi)
  obtain ⟨nx, ds, rfl, h1, h2, _⟩ := h.all c hc
  have e : nx = y := by simpa [nameOf, part] using e
  subst e
  exact ⟨h1, h2⟩
theorem no_zzz {cs : List PyData} (h : HouseD cs) : callNameB cs (.str "zzzzzzzz") = false := by
  cases q : callNameB cs (.str "zzzzzzzz") with
  | false => rfl
  | true =>
    have := (names_small h q).2
    have := lens.1
    omega
theorem up_not : smallS.cps.toList.all (fun c => decide (c < 128) && !smallC (up1 c)) = true := by decide +kernel
theorem no_upper {cs : List PyData} (h : HouseD cs) {x : Str} (hx : nameB (.str x) = true) : callNameB cs (.str (Txt.upper x)) = false := by
  have hx2 : (!nameT x && x.cps.toList.all smallC) = true := hx
  rw [Bool.and_eq_true] at hx2
  have all : ∀ c ∈ x.cps.toList, c < 128 ∧ smallC (up1 c) = false := fun c hc => by
    have h1 := of_decide_eq_true (List.all_eq_true.mp hx2.2 c hc)
    have h2 := List.all_eq_true.mp up_not c h1
    rw [Bool.and_eq_true, decide_eq_true_eq] at h2
    exact ⟨h2.1, by simpa using h2.2⟩
  have one : 1 ≤ x.length := by
    have h3 : nameT x = false := by simpa using hx2.1
    unfold nameT at h3
    rw [Bool.or_eq_false_iff] at h3
    have h4 : (decide ((1 : Int) ≤ (x.length : Nat)) && decide (((x.length : Nat) : Int) ≤ 8)) = true := by simpa using h3.1
    rw [Bool.and_eq_true, decide_eq_true_eq] at h4
    omega
  rw [upper_ascii fun c hc => (all c hc).1]
  cases q : callNameB cs (.str ⟨x.cps.map up1⟩) with
  | false => rfl
  | true =>
    have hb : (!nameT ⟨x.cps.map up1⟩ && (x.cps.map up1).toList.all smallC) = true := (names_small h q).1
    rw [Bool.and_eq_true] at hb
    have hlen : 0 < x.cps.toList.length := by
      rw [Array.length_toList]
      exact one
    have hc : x.cps.toList[0] ∈ x.cps.toList := List.getElem_mem hlen
    have hm : up1 x.cps.toList[0] ∈ (x.cps.map up1).toList := by
      rw [Array.toList_map]
      exact List.mem_map.mpr ⟨_, hc, rfl⟩
    have := List.all_eq_true.mp hb.2 _ hm
    rw [(all _ hc).2] at this
    cases this
def badL (x : Str) (ws : List PyData) : List PyData := [.none, .int 5, .str x, .list ws, .tuple (ws ++ [.str "zzzzzzzz"]), .tuple (ws ++ [.none]), .tuple (ws ++ [.tuple [.str x]]), .dict [], .tuple [.str (Txt.upper x)]]
theorem all_last {p : PyData → Bool} {ws : List PyData} {d : PyData} (h : p d = false) : (ws ++ [d]).all p = false := by
  rw [List.all_append]
  simp [h]
theorem badL_ok {cs : List PyData} (h : HouseD cs) {x : Str} (hx : nameB (.str x) = true) (hx3 : x.length ≤ 3) {ws : List PyData} (hf : fitD (.tuple ws) = true) (hl : ws.length ≤ 9000) : ∀ d ∈ badL x ws, fitD d = true ∧ wordB cs d = false := by
  obtain ⟨f1, f2⟩ := fit_tup hf
  have ox := name_ok hx
  have snoc : ∀ d : PyData, fitD d = true → callNameB cs d = false → fitD (.tuple (ws ++ [d])) = true ∧ wordB cs (.tuple (ws ++ [d])) = false := fun d h1 h2 => ⟨fit_tup_of (fun y hy => by
    rcases List.mem_append.mp hy with hy | hy
    · exact f1 y hy
    · rw [List.mem_singleton] at hy
      subst hy
      exact h1) (by simp; omega), all_last h2⟩
  intro d hd
  unfold badL at hd
  simp only [List.mem_cons, List.not_mem_nil, or_false] at hd
  rcases hd with rfl | rfl | rfl | rfl | rfl | rfl | rfl | rfl | rfl
  · exact ⟨by simp [fitD], rfl⟩
  · exact ⟨by simp [fitD], rfl⟩
  · exact ⟨by simp [fitD, ox]; omega, rfl⟩
  · exact ⟨by simp [fitD, fitAll_iff.mpr f1]; omega, rfl⟩
  · exact snoc _ (by have := strOks.1; have := lens.1; simp [fitD, strOks.1, lens.1]) (no_zzz h)
  · exact snoc _ (by simp [fitD]) rfl
  · exact snoc _ (by simp [fitD, fitAll, ox]; omega) rfl
  · exact ⟨by simp [fitD], rfl⟩
  · have hb : (!nameT x && x.cps.toList.all smallC) = true := hx
    rw [Bool.and_eq_true] at hb
    have asc : ∀ c ∈ x.cps.toList, c < 128 := fun c hc => by
      have h1 := of_decide_eq_true (List.all_eq_true.mp hb.2 c hc)
      have h2 := List.all_eq_true.mp up_not c h1
      rw [Bool.and_eq_true, decide_eq_true_eq] at h2
      exact h2.1
    refine ⟨?_, ?_⟩
    · rw [upper_ascii asc]
      have o : PyData.strOk ⟨x.cps.map up1⟩ = true := by
        unfold PyData.strOk
        rw [← Array.all_toList, Array.toList_map]
        refine List.all_eq_true.mpr fun c hc => ?_
        obtain ⟨c0, h0, rfl⟩ := List.mem_map.mp hc
        have := asc c0 h0
        unfold up1
        rw [decide_eq_true_eq]
        split <;> omega
      have l : (⟨x.cps.map up1⟩ : Str).length = x.length := Array.size_map
      simp [fitD, fitAll, o, l]
      omega
    · show [PyData.str (Txt.upper x)].all (callNameB cs) = false
      simp [no_upper h hx]
end K19

set_option maxHeartbeats 4000000
namespace K19
open PySem PySem.Spec PyProof.Rows L2 He Sa NdefX RZ
theorem HouseD.first {cs : List PyData} (h : HouseD cs) : ∃ x ds r, cs = .tuple [.str "call", .str x, .tuple ds] :: r ∧ nameB (.str x) = true ∧ x.length ≤ 3 := by
  cases cs with
  | nil =>
    have := h.one
    simp at this
  | cons c r =>
    obtain ⟨x, ds, rfl, h1, h2, _⟩ := h.all c List.mem_cons_self
    exact ⟨x, ds, r, rfl, h1, h2⟩
theorem bad_word_spec {cs : List PyData} (h : HouseD cs) {ws : List PyData} (hf : fitD (.tuple ws) = true) (hl : ws.length ≤ 9000) : Spec m_bad_word [hs cs, .tuple ws] 1 fun d => fitD d = true ∧ wordB cs d = false := by
  refine fnW_spec rfl fun p n s hd hlim => ?_
  show Ws g_bad_word [.drw p s, .dat (hs cs), .dat (.tuple ws), .un] _
  unfold g_bad_word
  obtain ⟨x, ds, r, ec, h1, h3⟩ := h.first
  have first : Pv (m2 ixD (callE m_calls (consA (getV 1) nilA)) (ret (.int 0))) [.drw p s, .dat (hs cs), .dat (.tuple ws), .un] (.str x) := pv_m2 (pv_call (pv_cons (pv_get rfl) pv_nil) (p_calls h.ok)) (pv_ret _) (at_lst (i := 0) (by rw [ec]; rfl))
  refine ws_seq (ws_asg (first.wp ⟨_, rfl, ?_⟩))
  show Ws _ [.drw p s, .dat (hs cs), .dat (.tuple ws), .dat (.str x)] _
  have one : 1 ≤ sizeLine := by decide
  have wd : Pv (getV 2) [.drw p s, .dat (hs cs), .dat (.tuple ws), .dat (.str x)] (.tuple ws) := pv_get rfl
  have cl : Pv (getV 3) [.drw p s, .dat (hs cs), .dat (.tuple ws), .dat (.str x)] (.str x) := pv_get rfl
  have ls : Pv (frzE (listQ (lookV 2))) [.drw p s, .dat (hs cs), .dat (.tuple ws), .dat (.str x)] (.list ws) := pv_frz (pv_bnd (a := (true, ws)) (b := ws) rfl rfl)
  have up : Pv (upE (getV 3)) [.drw p s, .dat (hs cs), .dat (.tuple ws), .dat (.str x)] (.str (Txt.upper x)) := by
    unfold upE
    refine pv_bnd cl ?_
    unfold Pv
    dsimp only
    rw [if_pos (by omega)]
    rfl
  have add : ∀ {f : M PyData} {d : PyData}, Pv f [.drw p s, .dat (hs cs), .dat (.tuple ws), .dat (.str x)] d → Pv (m2 addD (getV 2) (tupE (consA f nilA))) [.drw p s, .dat (hs cs), .dat (.tuple ws), .dat (.str x)] (.tuple (ws ++ [d])) := fun {f d} hfd => pv_m2 wd (pv_tup (pv_cons hfd pv_nil) one) (add_tup (by simp; omega))
  exact pick_C (ds := badL x ws) (C := fun d => fitD d = true ∧ wordB cs d = false) rfl (pv_frz (pv_lst (ds := badL x ws) (pv_cons (pv_ret _) (pv_cons (pv_ret _) (pv_cons cl (pv_cons ls (pv_cons (add (pv_ret _)) (pv_cons (add (pv_ret _)) (pv_cons (add (pv_tup (pv_cons cl pv_nil) one)) (pv_cons (pv_ret _) (pv_cons (pv_tup (pv_cons up pv_nil) one) pv_nil))))))))) (by show 9 ≤ sizeLine; decide))) (by simp [badL]) (by simp [badL]) (badL_ok h h1 h3 hf hl) hd (by omega) fun d s' hC hd' => ⟨s', _, rfl, hC, hd'⟩
end K19

set_option maxHeartbeats 4000000
namespace K19
open PySem PySem.Spec PyProof.Rows L2 He Sa NdefX RZ
theorem tcnts_le {m : Nat} : ∀ {l : List PyData}, (∀ x ∈ l, tcnt x ≤ m) → tcnts l ≤ l.length * m
  | [], _ => by simp [tcnts]
  | x :: l, h => by
    have h1 := h x List.mem_cons_self
    have h2 := tcnts_le (l := l) fun y hy => h y (List.mem_cons_of_mem _ hy)
    simp only [tcnts, List.length_cons, Nat.add_mul, Nat.one_mul]
    omega
structure Sized (b dep cnt : Nat) (d : PyData) : Prop where
  sm : smD b d = true
  dep : tdep d ≤ dep
  cnt : tcnt d ≤ cnt
theorem sized_str {b : Nat} {x : Str} (h : PyData.strOk x = true) (hl : x.length ≤ b) : Sized b 0 1 (.str x) := ⟨sm_str.mpr ⟨h, hl⟩, by simp [tdep], by simp [tcnt]⟩
theorem sized_tup {b dep cnt n : Nat} {xs : List PyData} (h : ∀ x ∈ xs, Sized b dep cnt x) (hl : xs.length ≤ n) (hb : n ≤ b) : Sized b (dep + 1) (1 + n * cnt) (.tuple xs) := by
  refine ⟨sm_tup.mpr ⟨fun x hx => (h x hx).sm, by omega⟩, ?_, ?_⟩
  · rw [tdep_tup]
    have := tdeps_le (m := dep) fun x hx => (h x hx).dep
    omega
  · rw [tcnt_tup]
    have h1 := tcnts_le (m := cnt) fun x hx => (h x hx).cnt
    have h2 := Nat.mul_le_mul_right cnt hl
    omega
theorem Sized.more {b dep cnt b' dep' cnt' : Nat} {d : PyData} (h : Sized b dep cnt d) (h1 : b ≤ b') (h2 : dep ≤ dep') (h3 : cnt ≤ cnt') : Sized b' dep' cnt' d := ⟨sm_more h1 d h.sm, Nat.le_trans h.dep h2, Nat.le_trans h.cnt h3⟩
theorem wordsOk : PyData.strOk "house" = true ∧ PyData.strOk "program" = true ∧ ("house" : Str).length = 5 ∧ ("program" : Str).length = 7 := by decide +kernel
theorem call_sized {b : Nat} (hb : 9 ≤ b) {c : PyData} (h : CallD c) : Sized b 2 13 c := by
  obtain ⟨x, ds, rfl, h1, h2, okd, d1, d3⟩ := h
  have dsz : Sized b 1 4 (.tuple ds) := sized_tup (n := 3) (cnt := 1) (dep := 0) (fun y hy => by
    have hy2 := List.all_eq_true.mp okd.all y hy
    obtain ⟨t, rfl⟩ := name_str hy2
    exact sized_str (name_ok hy2) (by have := okd.few _ hy t rfl; omega)) d3 (by omega)
  refine sized_tup (n := 3) (cnt := 4) (dep := 1) (fun y hy => ?_) (by simp) (by omega)
  simp only [List.mem_cons, List.not_mem_nil, or_false] at hy
  rcases hy with rfl | rfl | rfl
  · exact (sized_str strOks.2.1 (by rw [lens.2.1]; omega)).more (Nat.le_refl _) (by omega) (by omega)
  · exact (sized_str (name_ok h1) (by omega)).more (Nat.le_refl _) (by omega) (by omega)
  · exact dsz
theorem house_sized {b : Nat} (hb : 9 ≤ b) {cs : List PyData} (h : HouseD cs) : Sized b 4 81 (hs cs) := by
  have c := sized_tup (n := 3) (fun c hc => call_sized hb (h.all c hc)) h.few (by omega)
  refine sized_tup (n := 2) (cnt := 40) (dep := 3) (fun y hy => ?_) (by simp) (by omega)
  simp only [List.mem_cons, List.not_mem_nil, or_false] at hy
  rcases hy with rfl | rfl
  · exact (sized_str wordsOk.1 (by rw [wordsOk.2.2.1]; omega)).more (Nat.le_refl _) (by omega) (by omega)
  · exact c
theorem row_sized {b : Nat} (hb : 9 ≤ b) {cs : List PyData} (h : HouseD cs) {many : Nat} (hm : many ≤ b) {row : PyData} (hr : rowB cs (many : Nat) row = true) : Sized b 2 10 row := by
  cases row with
  | tuple ps =>
    have hr : (ps.length == cs.length && (cs.zip ps).all fun z => pairB z.1 (many : Nat) z.2) = true := hr
    rw [Bool.and_eq_true] at hr
    have hl : ps.length = cs.length := by simpa using hr.1
    refine sized_tup (n := 3) (cnt := 3) (dep := 1) (fun q hq => ?_) (by rw [hl]; exact h.few) (by omega)
    obtain ⟨i, hi⟩ := List.getElem?_of_mem hq
    have hil := (List.getElem?_eq_some_iff.mp hi).1
    have hc : cs[i]? = some cs[i] := List.getElem?_eq_getElem (by omega)
    have pb := List.all_eq_true.mp hr.2 (cs[i], q) (List.mem_of_getElem? (List.getElem?_zip_eq_some.mpr ⟨hc, hi⟩))
    obtain ⟨a, j, e, h0, h1⟩ := pair_form pb
    have e : q = .tuple [a, .int j] := e
    subst e
    have pb : (ansB cs[i] a && (decide (0 ≤ j) && decide (j < (many : Nat)))) = true := pb
    rw [Bool.and_eq_true] at pb
    obtain ⟨x, ds, ec, _, _, okd, _, _⟩ := h.all cs[i] (List.getElem_mem _)
    have sa : Sized b 0 1 a := by
      cases a with
      | str y =>
        have hy : memS y (tupOf (part 2 cs[i])) = true := pb.1
        rw [ec] at hy
        obtain ⟨k, hk⟩ := mem_at okd.strs hy
        have hm := List.mem_of_getElem? hk
        exact sized_str (name_ok (List.all_eq_true.mp okd.all _ hm)) (by have := okd.few _ hm y rfl; omega)
      | _ => exact absurd pb.1 (by simp [ansB])
    refine sized_tup (n := 2) (cnt := 1) (dep := 0) (fun y hy => ?_) (by simp) (by omega)
    simp only [List.mem_cons, List.not_mem_nil, or_false] at hy
    rcases hy with rfl | rfl
    · exact sa
    · exact ⟨sm_int.mpr (by omega), by simp [tdep], by simp [tcnt]⟩
  | _ => cases hr
theorem prog_sized {b : Nat} (hb : 9 ≤ b) {cs rows : List PyData} (h : HouseD cs) (ok : ProgOk cs rows) (hl : rows.length ≤ b) : Sized b 5 (400 + 40 * b) (pr cs rows) := by
  have r := sized_tup (n := b) (fun r hr => row_sized hb h hl (List.all_eq_true.mp ok.all r hr)) hl (Nat.le_refl _)
  have hh := house_sized hb h
  refine (sized_tup (n := 3) (cnt := 100 + 10 * b) (dep := 4) (fun y hy => ?_) (by simp) (by omega)).more (Nat.le_refl _) (Nat.le_refl _) (by omega)
  simp only [List.mem_cons, List.not_mem_nil, or_false] at hy
  rcases hy with rfl | rfl | rfl
  · exact (sized_str wordsOk.2.1 (by rw [wordsOk.2.2.2]; omega)).more (Nat.le_refl _) (by omega) (by omega)
  · exact hh.more (Nat.le_refl _) (Nat.le_refl _) (by omega)
  · exact r.more (Nat.le_refl _) (by omega) (by omega)
/-! a history with itself -/
mutual
theorem eqv_self : ∀ d : PyData, PyData.canLay0 d = true → PyData.eqv d d = true
  | .none, _ => by simp [PyData.eqv]
  | .bool b, _ => by simp [PyData.eqv]
  | .int i, _ => by simp [PyData.eqv]
  | .str x, _ => by simp [PyData.eqv]
  | .list xs, h => by
    simp only [PyData.eqv]
    exact eqv_selfAll xs (by simpa [PyData.canLay0] using h)
  | .tuple xs, h => by
    simp only [PyData.eqv]
    exact eqv_selfAll xs (by simpa [PyData.canLay0] using h)
  | .dict _, h => by simp [PyData.canLay0] at h
theorem eqv_selfAll : ∀ xs : List PyData, PyData.canLayAll0 xs = true → PyData.eqvAll xs xs = true
  | [], _ => by simp [PyData.eqvAll]
  | x :: xs, h => by
    have h : PyData.canLay0 x = true ∧ PyData.canLayAll0 xs = true := by simpa [PyData.canLayAll0] using h
    simp [PyData.eqvAll, eqv_self x h.1, eqv_selfAll xs h.2]
end
theorem eqD_self {d : PyData} (h : SeqAt.shaped d = true) : eqD d d = some (.bool true) := by
  unfold eqD Sa.eqO
  rw [if_pos ⟨h, h⟩, eqv_self d (SeqAt.canLay_of_shaped h)]
  rfl
theorem neD_self {d : PyData} (h : SeqAt.shaped d = true) : neD d d = some (.bool false) := by
  unfold neD
  rw [if_pos ⟨h, h⟩, eqv_self d (SeqAt.canLay_of_shaped h)]
  rfl
theorem pairs_lay : ∀ {l : List PyData}, (∀ d ∈ l, ∃ x y, d = .tuple [.str x, .str y] ∧ PyData.strOk x = true ∧ PyData.strOk y = true) → PyData.canLayAll0 l = true ∧ PyData.depthAll l ≤ 1
  | [], _ => by simp [PyData.canLayAll0, PyData.depthAll]
  | d :: l, h => by
    obtain ⟨x, y, rfl, hx, hy⟩ := h d List.mem_cons_self
    obtain ⟨h1, h2⟩ := pairs_lay (l := l) fun e he => h e (List.mem_cons_of_mem _ he)
    simp [PyData.canLayAll0, PyData.depthAll, PyData.canLay0, PyData.depth, hx, hy, h1]
    omega
theorem Runs.strs {cs rows : List PyData} (h : HouseD cs) (ok : ProgOk cs rows) {st e : Nat} {ws hist : List PyData} (r : Runs cs rows st ws hist e) (hw : ws.all (callNameB cs) = true) : ∀ d ∈ hist, ∃ x y, d = .tuple [.str x, .str y] ∧ PyData.strOk x = true ∧ PyData.strOk y = true := by
  induction r with
  | nil => exact fun d h => nomatch h
  | snoc r s ih =>
    rename_i e0 j ws0 hist0 w a
    rw [List.all_append, Bool.and_eq_true] at hw
    intro d hd
    rcases List.mem_append.mp hd with hd | hd
    · exact ih hw.1 d hd
    · rw [List.mem_singleton] at hd
      have hwn : callNameB cs w = true := by simpa using hw.2
      obtain ⟨i, ps, e1, e4, e2, e3⟩ := s.ex
      cases w with
      | str x =>
        have rb := List.all_eq_true.mp ok.all _ (List.mem_of_getElem? e2)
        have sz := row_sized (b := max 9 rows.length) (Nat.le_max_left _ _) h (Nat.le_max_right _ _) rb
        have rb : (ps.length == cs.length && (cs.zip ps).all fun z => pairB z.1 (rows.length : Nat) z.2) = true := rb
        rw [Bool.and_eq_true] at rb
        obtain ⟨c, hc⟩ := Option.isSome_iff_exists.mp e4
        have pb := List.all_eq_true.mp rb.2 (c, _) (List.mem_of_getElem? (List.getElem?_zip_eq_some.mpr ⟨hc, e3⟩))
        have pb : (ansB c a && (decide (0 ≤ ((j : Nat) : Int)) && decide (((j : Nat) : Int) < (rows.length : Nat)))) = true := pb
        rw [Bool.and_eq_true] at pb
        have sp := (sm_tup.mp sz.sm).1 _ (List.mem_of_getElem? e3)
        have sa := (sm_tup.mp sp).1 a (by simp)
        cases a with
        | str y => exact ⟨x, y, hd, name_ok (names_small h hwn).1, (sm_str.mp sa).1⟩
        | _ => exact absurd pb.1 (by simp [ansB])
      | _ => cases hwn
theorem hist_shaped {cs rows : List PyData} (h : HouseD cs) (ok : ProgOk cs rows) {st e : Nat} {ws hist : List PyData} (r : Runs cs rows st ws hist e) (hw : ws.all (callNameB cs) = true) : SeqAt.shaped (.tuple hist) = true ∧ SeqAt.shaped (.tuple (hist.map (part 1))) = true := by
  have hs := r.strs h ok hw
  obtain ⟨h1, h2⟩ := pairs_lay hs
  refine ⟨?_, (strs_shaped fun d hd => ?_).1⟩
  · simp [SeqAt.shaped, PyData.canLay0, PyData.depth, h1]
    omega
  · obtain ⟨q, hq, rfl⟩ := List.mem_map.mp hd
    obtain ⟨x, y, rfl, _, hy⟩ := hs q hq
    exact ⟨y, rfl, hy⟩
end K19

set_option maxHeartbeats 4000000
namespace K19
open PySem PySem.Spec PyProof.Rows L2 He Sa NdefX RZ
theorem mod_nat {a b : Nat} (hb : 0 < b) : modD (.int (a : Nat)) (.int (b : Nat)) = some (.int ((a % b : Nat) : Int)) := by
  have e : Int.fmod (a : Nat) (b : Nat) = ((a % b : Nat) : Int) := by
    rw [Int.fmod_eq_emod_of_nonneg _ (by omega)]
    rfl
  have p : modD (.int (a : Nat)) (.int (b : Nat)) = if decide (((b : Nat) : Int) ≠ 0) = true then some (PyData.int (Int.fmod (a : Nat) (b : Nat))) else none := rfl
  rw [p, if_pos (by rw [decide_eq_true_eq]; omega), e]
theorem div_3 {a : Nat} : divD (.int (a : Nat)) (.int 3) = some (.int ((a / 3 : Nat) : Int)) := by
  have e : Int.fdiv (a : Nat) 3 = ((a / 3 : Nat) : Int) := by
    rw [Int.fdiv_eq_ediv_of_nonneg _ (by omega)]
    rfl
  show some (PyData.int (Int.fdiv (a : Nat) 3)) = _
  rw [e]
def ansAt (c : PyData) (i : Nat) : PyData := (tupOf (part 2 c)).getD ((i / 3) % (tupOf (part 2 c)).length) .none
def rowAt (cs : List PyData) (many i : Nat) : PyData := .tuple (cs.map fun c => .tuple [ansAt c i, .int (((i + 1) % many : Nat) : Int)])
def rowsL (cs : List PyData) (many : Nat) : List PyData := (List.range many).map fun i => rowAt cs many i
theorem rowsL_len (cs : List PyData) (many : Nat) : (rowsL cs many).length = many := by simp [rowsL]
theorem rowsL_at {cs : List PyData} {many i : Nat} {r : PyData} (h : (rowsL cs many)[i]? = some r) : i < many ∧ r = rowAt cs many i := by
  unfold rowsL at h
  rw [List.getElem?_map] at h
  have hi : i < many := by
    rcases Nat.lt_or_ge i many with h2 | h2
    · exact h2
    · rw [List.getElem?_eq_none (by simpa using h2)] at h
      cases h
  rw [List.getElem?_range hi] at h
  exact ⟨hi, (Option.some.inj h).symm⟩
theorem ansAt_mem {c : PyData} (h : CallD c) (i : Nat) : ∃ ds, part 2 c = .tuple ds ∧ ansAt c i ∈ ds ∧ 0 < ds.length ∧ ds[(i / 3) % ds.length]? = some (ansAt c i) ∧ NamesOk ds := by
  obtain ⟨x, ds, rfl, _, _, okd, d1, _⟩ := h
  have hl : (i / 3) % ds.length < ds.length := Nat.mod_lt _ (by omega)
  have e : ds[(i / 3) % ds.length]? = some (ansAt (.tuple [.str "call", .str x, .tuple ds]) i) := by
    show _ = some (ds.getD ((i / 3) % ds.length) .none)
    rw [List.getD_eq_getElem?_getD, List.getElem?_eq_getElem hl]
    rfl
  exact ⟨ds, rfl, List.mem_of_getElem? e, by omega, e, okd⟩
theorem rowsL_ok {cs : List PyData} (h : HouseD cs) {many : Nat} (hm : 0 < many) : ProgOk cs (rowsL cs many) := by
  refine ⟨h.ok, ?_, all_upto fun i r hr => ?_⟩
  · cases q : rowsL cs many with
    | nil =>
      have := rowsL_len cs many
      rw [q] at this
      simp at this
      omega
    | cons a l => rfl
  · obtain ⟨hi, rfl⟩ := rowsL_at hr
    have hz : ((cs.zip (cs.map fun c => PyData.tuple [ansAt c i, .int (((i + 1) % many : Nat) : Int)])).all fun z => pairB z.1 ((rowsL cs many).length : Nat) z.2) = true := zip_all fun m c q hc hq => by
      rw [List.getElem?_map, hc] at hq
      have eq := Option.some.inj hq
      subst eq
      obtain ⟨ds, e2, hmem, _, _, okd⟩ := ansAt_mem (h.all c (List.mem_of_getElem? hc)) i
      have hlt := Nat.mod_lt (i + 1) hm
      obtain ⟨y, ey, _⟩ := okd.strs _ hmem
      show (ansB c (ansAt c i) && (decide (0 ≤ (((i + 1) % many : Nat) : Int)) && decide ((((i + 1) % many : Nat) : Int) < ((rowsL cs many).length : Nat)))) = true
      rw [rowsL_len, decide_eq_true (by omega), decide_eq_true (by omega), ey]
      rw [ey] at hmem
      show (memS y (tupOf (part 2 c)) && true) = true
      rw [e2]
      show (memS y ds && true) = true
      rw [mem_memS hmem]
      rfl
    show ((cs.map fun c => PyData.tuple [ansAt c i, .int (((i + 1) % many : Nat) : Int)]).length == cs.length && _) = true
    rw [hz, List.length_map]
    simp
theorem runs_mod {cs : List PyData} {many : Nat} (hm : 0 < many) {ws hist : List PyData} {st e : Nat} (r : Runs cs (rowsL cs many) st ws hist e) (h0 : st = 0) : e = ws.length % many := by
  induction r with
  | nil =>
    subst h0
    simp
  | snoc r s ih =>
    rename_i e0 j ws0 hist0 w a
    obtain ⟨i, ps, _, _, e2, e3⟩ := s.ex
    obtain ⟨hlt, er⟩ := rowsL_at e2
    have ep : ps = cs.map fun c => PyData.tuple [ansAt c e0, .int (((e0 + 1) % many : Nat) : Int)] := by
      unfold rowAt at er
      simpa using er
    rw [ep, List.getElem?_map] at e3
    cases hc : cs[i]? with
    | none =>
      rw [hc] at e3
      cases e3
    | some c =>
      rw [hc] at e3
      have e4 := Option.some.inj e3
      simp only [PyData.tuple.injEq, List.cons.injEq, PyData.int.injEq] at e4
      have e5 : (e0 + 1) % many = j := by omega
      rw [← e5, ih, List.length_append]
      exact Nat.mod_add_mod _ _ _
theorem long_spec : Spec m_long_right [] 300 fun d => d = .bool true := by
  refine fnW_spec rfl fun p n s hd hlim => ?_
  show Ws g_long_right [.drw p s, .un, .un, .un, .un, .un, .un, .un, .un] _
  unfold g_long_right
  refine ws_seq (ws_asg ?_)
  rw [wp_tup, wp_cons]
  refine wp_draw rfl pv_nil house_spec hd (by omega) fun hd0 s1 ⟨cs, ec, H⟩ h1 => ?_
  subst ec
  rw [wp_cons, wp_m2]
  refine (pv_ret _).wp (wp_draw rfl (pv_cons (pv_ret _) pv_nil) (take_spec 301 (by decide) (by decide)) h1 (by omega) fun kd s2 ⟨k, ek, hk⟩ h2 => ?_)
  subst ek
  obtain ⟨many, em⟩ : ∃ many : Nat, many = 100 + k := ⟨_, rfl⟩
  refine ⟨.int (many : Nat), by show some (PyData.int (100 + ((k : Nat) : Int))) = _; rw [em]; rfl, ?_⟩
  rw [wp_nil]
  refine ⟨two_le, _, rfl, ?_⟩
  show Ws _ [.drw p s2, .dat (hs cs), .dat (.int (many : Nat)), .un, .un, .un, .un, .un, .un] _
  have ok := rowsL_ok H (many := many) (by omega)
  have lenR := rowsL_len cs many
  have rows : Pv (lcE [4] (.nm 4) (rng1 (consA (getV 2) nilA)) yesT (calQ tupQ (sqF (lcE [5] (.nm 5) (itF (.nm 5) (ixV 1 (ret (.int 1)))) yesT (tupE (consA (m2 ixD (ixV 5 (ret (.int 2))) (m2 modD (m2 divD (getV 4) (ret (.int 3))) (calE (c1 lenD) (consA (ixV 5 (ret (.int 2))) nilA)))) (consA (m2 modD (m2 addD (getV 4) (ret (.int 1))) (getV 2)) nilA)))))))
      [.drw p s2, .dat (hs cs), .dat (.int (many : Nat)), .un, .un, .un, .un, .un, .un] (rowsL cs many) := by
    refine pv_mapI rfl (pv_rng1 (pv_cons (pv_get rfl) pv_nil) (by omega)) (by rw [lenR]; simp) fun i d y hdi hy => ?_
    obtain ⟨hi, rfl⟩ := rng_at hdi
    obtain ⟨_, rfl⟩ := rowsL_at hy
    refine ⟨_, rfl, rfl, ?_⟩
    show Pv _ [.drw p s2, .dat (hs cs), .dat (.int (many : Nat)), .un, .dat (.int (i : Nat)), .un, .un, .un, .un] _
    refine pv_calQ (pv_sqF (pv_map (fun c => .tuple [ansAt c i, .int (((i + 1) % many : Nat) : Int)]) rfl (pv_itF (pv_ixV rfl (pv_ret _) (ix_tup (i := 1) (d := .tuple cs) rfl)) rfl (by simp [fitT])) fun c hc => ?_)) rfl
    obtain ⟨ds, e2, _, hpos, hat, _⟩ := ansAt_mem (H.all c hc) i
    obtain ⟨x, ds2, ecc, _⟩ := H.all c hc
    subst ecc
    have e3 : PyData.tuple ds2 = .tuple ds := e2
    have e4 : ds2 = ds := by simpa using e3
    subst e4
    refine ⟨_, rfl, rfl, ?_⟩
    show Pv _ [.drw p s2, .dat (hs cs), .dat (.int (many : Nat)), .un, .dat (.int (i : Nat)), .dat (.tuple [.str "call", .str x, .tuple ds2]), .un, .un, .un] _
    have ix2 : Pv (ixV 5 (ret (.int 2))) [.drw p s2, .dat (hs cs), .dat (.int (many : Nat)), .un, .dat (.int (i : Nat)), .dat (.tuple [.str "call", .str x, .tuple ds2]), .un, .un, .un] (.tuple ds2) := pv_ixV rfl (pv_ret _) (ix_tup (i := 2) rfl)
    exact pv_tup (pv_cons (pv_m2 ix2 (pv_m2 (pv_m2 (pv_get rfl) (pv_ret _) div_3) (pv_calE (pv_cons ix2 pv_nil) rfl) (mod_nat hpos)) (ix_tup hat)) (pv_cons (pv_m2 (pv_m2 (z := .int ((i + 1 : Nat) : Int)) (pv_get rfl) (pv_ret _) (by show some (PyData.int (((i : Nat) : Int) + 1)) = some (PyData.int ((i + 1 : Nat) : Int)); congr 2)) (pv_get rfl) (mod_nat (by omega))) pv_nil)) two_le
  refine ws_seq (ws_own (rows.wp ?_))
  show Ws _ [.drw p s2, .dat (hs cs), .dat (.int (many : Nat)), .own (rowsL cs many), .un, .un, .un, .un, .un] _
  refine ws_seq (ws_par ?_)
  unfold runR
  rw [wp_bnd]
  have prg : Pv (tupE (consA (ret (.str "program")) (consA (getV 1) (consA (calQ tupQ (lookV 3)) nilA)))) [.drw p s2, .dat (hs cs), .dat (.int (many : Nat)), .own (rowsL cs many), .un, .un, .un, .un, .un] (pr cs (rowsL cs many)) :=
    pv_tup (ds := [.str "program", hs cs, .tuple (rowsL cs many)]) (pv_cons (pv_ret _) (pv_cons (pv_get rfl) (pv_cons (pv_calQ (z := (false, rowsL cs many)) rfl rfl) pv_nil))) (by show 3 ≤ sizeLine; decide)
  refine prg.wp ?_
  rw [wp_bnd]
  unfold runR
  rw [wp_bnd, wp_calQ, wp_sqF]
  refine wp_lc ((pv_rng1 (n := 200) (pv_cons (pv_ret _) pv_nil) (by decide)).wp ⟨fun i ys E => ∃ s3, E = [.drw p s3, .dat (hs cs), .dat (.int (many : Nat)), .own (rowsL cs many), .un, .un, .un, .un, .un] ∧ Dk (n + 61 + i) s3 ∧ ys.length = i ∧ ys.all (callNameB cs) = true, ⟨s2, rfl, h2, rfl, rfl⟩, ?_, ?_⟩)
  · rintro i ys E d hdi ⟨s3, rfl, h3, hl, hall⟩
    obtain ⟨hi, rfl⟩ := rng_at hdi
    refine ⟨_, rfl, (wp_ret true).mpr ?_⟩
    rw [if_pos rfl]
    have ne : cs.map nameOf ≠ [] := by
      intro e
      have l := congrArg List.length e
      rw [List.length_map] at l
      have l : cs.length = 0 := l
      have o := H.one
      omega
    refine wp_draw rfl (pv_cons (pv_call (pv_cons (pv_get rfl) pv_nil) (p_calls H.ok)) pv_nil) (pick_spec ne (by rw [List.length_map]; have := H.few; omega)) h3 (by omega) fun d s4 hmem h4 => ?_
    exact ⟨s4, rfl, h4, by simp [hl], by rw [List.all_append, hall]; simp [name_in H.ok hmem]⟩
  · rintro ws E ⟨s3, rfl, h3, hl, hw⟩
    rw [List.length_map, List.length_range] at h3 hl
    refine ⟨.tuple ws, rfl, ?_⟩
    rw [wp_bnd]
    unfold runR
    refine (pv_ret _).wp ?_
    rw [wp_ret, wp_ret]
    refine ⟨rfl, ?_⟩
    show Ws _ [.drw p s3, .dat (hs cs), .dat (.int (many : Nat)), .own (rowsL cs many), .un, .un, .dat (pr cs (rowsL cs many)), .dat (.tuple ws), .un] _
    have fp : fitD (pr cs (rowsL cs many)) = true := sm_fit (b := 500) (by omega) _ (prog_sized (by omega) H ok (by omega)).sm
    have fw : fitD (.tuple ws) = true := fit_word H hw (by omega)
    obtain ⟨hist, e, r⟩ := runs_ex ok hw (st := 0) (by omega) ws.length (Nat.le_refl _)
    rw [List.take_length] at r
    have ee := runs_mod (by omega) r rfl
    obtain ⟨ph, pst⟩ := p_history ok fp fw hw r
    have e200 : e = 200 % many := by rw [ee, hl]
    have args : ∀ {m : List PyData → Option FR}, Pv (consA (getV 6) (consA (getV 7) nilA)) [.drw p s3, .dat (hs cs), .dat (.int (many : Nat)), .own (rowsL cs many), .un, .un, .dat (pr cs (rowsL cs many)), .dat (.tuple ws), .un] [pr cs (rowsL cs many), .tuple ws] := pv_cons (pv_get rfl) (pv_cons (pv_get rfl) pv_nil)
    refine ws_seq (ws_ifv (b := false) (pv_or_f (pv_asB (pv_m2 (pv_callX (args (m := m_history)) pst) (pv_m2 (pv_ret (PyData.int ((200 : Nat) : Int))) (pv_get rfl) (mod_nat (by omega))) (neD_int _ _))) ?_ (pv_asB (pv_m2 (pv_call (pv_cons (pv_get rfl) pv_nil) (p_is_program _ fp)) (pv_ret _) ?_))) (fun h => nomatch h) fun _ => ws_nx ?_)
    · rw [e200]
      simp
    · rw [prog_of ok]
      rfl
    · exact ws_retv (pv_m2 (pv_callX (args (m := m_history)) ph) (pv_call (args (m := m_history)) (p_answered ok hw (by omega) r)) (eqD_self (hist_shaped H ok r hw).1)) ⟨s3, _, rfl, rfl, h3.mono (by omega)⟩
end K19

set_option maxHeartbeats 4000000
/-! The data layer: calls by keywords. -/
namespace Sa
open PySem PySem.Spec PyProof.Rows L2 He NdefX RZ
section
variable {X : Cx} {K : PySem.W.Frag} {W : XK} {σ : L2.St} {H : Hp} {f : M PyData} {fa : M (List PyData)} {e : Expr} {kws : List Keyword}
theorem tA_cons {Q : List V → Hp → Prop} (h : tA K W (consA f fa) σ H Q) : tCons (tE K W f) (tA K W fa) σ H Q := by
  obtain ⟨ow, E, rr, z, hz, k⟩ := h
  refine tE_bnd rr hz (fun c fs E1 e => by subst e; exact k) fun d E1 h1 ow1 H1 v R1 S1 q1 => ?_
  refine tA_bnd R1 h1 (fun c fs E1 e ow' H' cls dv s x => by subst e; exact k ow' H' cls dv (S1.trans s) x) fun ds E2 h2 ow2 H2 vs R2 S2 q2 => ?_
  have e := Option.some.inj h2
  subst e
  exact k ow2 H2 _ R2 (S1.trans S2) (.cons (S2.dq q1) q2)
theorem tA_nil {Q : List V → Hp → Prop} (h : tA K W nilA σ H Q) : tNil σ H Q := by
  obtain ⟨ow, E, rr, z, hz, k⟩ := h
  have e := Option.some.inj hz
  subst e
  exact k ow H [] rr (Stp.refl _ _) .nil
theorem PK.imp {t u : TA} (h : PK X kws t) (k : ∀ σ H Q, u σ H Q → t σ H Q) : PK X kws u := ⟨fun pos pins s σ H Q I q => h.run pos pins s σ H Q I (k _ _ _ q)⟩
theorem dk_nil : PK X [] (tA X.K W nilA) := PK.imp pk_nil fun _ _ _ h => tA_nil h
theorem dk_cons {nm : Option Str} {kpos : Pos} (ha : PE X e (tE X.K W f)) (hr : PK X kws (tA X.K W fa)) : PK X (⟨nm, e, kpos⟩ :: kws) (tA X.K W (consA f fa)) := PK.imp (pk_cons ha hr) fun _ _ _ h => tA_cons h
/-- two keywords in the other order -/
def swp {α : Type} : List α → List α
  | [a, b] => [b, a]
  | l => l
theorem swp_len {α : Type} (l : List α) : (swp l).length = l.length := by
  unfold swp
  split <;> rfl
theorem swp_dq {F : Hp} {vs : List V} {ds : List PyData} (h : DqAll K F vs ds) : DqAll K F (swp vs) (swp ds) := by
  cases h with
  | nil => exact .nil
  | cons a t =>
    cases t with
    | nil => exact .cons a .nil
    | cons b t =>
      cases t with
      | nil => exact .cons b (.cons a .nil)
      | cons c t => exact .cons a (.cons b (.cons c t))
theorem swp_vals {vs : List V} {us : List Value} (h : Vals vs us) : Vals (swp vs) (swp us) := by
  cases h with
  | nil => exact .nil
  | cons a t =>
    cases t with
    | nil => exact .cons a .nil
    | cons b t =>
      cases t with
      | nil => exact .cons b (.cons a .nil)
      | cons c t => exact .cons a (.cons b (.cons c t))
def swpA (f : M (List PyData)) : M (List PyData) := bnd f fun ds => ret (swp ds)
variable {x : Str} {j k : Nat} {ps ks : List Str} {p pos : Pos} {m : List PyData → Option FR}
theorem tE_callK {n : Nat} (hm : ∀ ds r, m ds = some r → ds.length = n) {Q : VK} (h : tE K W (callE m fa) σ H Q) : tCallN 0 n (spF K m) (fun _ zs => zs) E0 tNil (tA K W fa) σ H Q := by
  obtain ⟨ow, E, rr, z, hz, k⟩ := h
  show tA K W fa σ H fun zs H2 => ([] : List V).length = 0 ∧ zs.length = n ∧ spF K m zs H2 Q E0
  refine tA_bnd rr hz (fun c fs E1 e => by subst e; exact k) fun ds E1 h1 ow1 H1 vs R1 S1 q1 => ?_
  cases hmm : m ds with
  | none =>
    simp only [hmm] at h1
    cases h1
  | some r =>
    cases r with
    | ex c fs =>
      simp only [hmm] at h1
      cases h1
    | ok d =>
      simp only [hmm] at h1
      have e := Option.some.inj h1
      subst e
      exact ⟨rfl, by rw [q1.length]; exact hm ds _ hmm, ow1, ds, .ok d, R1.tr, q1, hmm, fun v H' s q => k ow1 H' v (R1.grow s) (S1.trans (Stp.grow s)) q⟩
theorem tE_callS {n : Nat} (hm : ∀ ds r, m ds = some r → ds.length = n) {Q : VK} (h : tE K W (callE m (swpA fa)) σ H Q) : tCallN 0 n (spF K m) (fun _ zs => swp zs) E0 tNil (tA K W fa) σ H Q := by
  obtain ⟨ow, E, rr, z, hz, k⟩ := h
  show tA K W fa σ H fun zs H2 => ([] : List V).length = 0 ∧ zs.length = n ∧ spF K m (swp zs) H2 Q E0
  have hz2 : bnd fa (fun ds => match m (swp ds) with
    | some (.ok d) => ret d
    | _ => die) E = some z := by
    rw [← hz]
    unfold callE swpA bnd
    cases q : fa E with
    | none => rfl
    | some r => cases r <;> rfl
  refine tA_bnd rr hz2 (fun c fs E1 e => by subst e; exact k) fun ds E1 h1 ow1 H1 vs R1 S1 q1 => ?_
  cases hmm : m (swp ds) with
  | none =>
    simp only [hmm] at h1
    cases h1
  | some r =>
    cases r with
    | ex c fs =>
      simp only [hmm] at h1
      cases h1
    | ok d =>
      simp only [hmm] at h1
      have e := Option.some.inj h1
      subst e
      exact ⟨rfl, by rw [q1.length, ← swp_len]; exact hm _ _ hmm, ow1, swp ds, .ok d, R1.tr, swp_dq q1, hmm, fun v H' s q => k ow1 H' v (R1.grow s) (S1.trans (Stp.grow s)) q⟩
/-- f(k = v, ..), the keywords in the parameters' order; in the other order -/
theorem de_callK (C : CalK X.prog X.w X.K X.mg X.base x k ps ks (fun _ zs => zs) (spF X.K m)) (hm : ∀ ds r, m ds = some r → ds.length = ks.length) (hr : Room j X.A) (hkw : PK X kws (tA X.K W fa)) (hj : k ≤ j := by decide) (hg : Gl X x := by rfl)
    (hall : (backToKw pos (keywordEach kws X.env)).all (·.1.isSome) = true := by rfl) (hks : (backToKw pos (keywordEach kws X.env)).filterMap (·.1) = ks := by rfl) (hdb : (x == ("__debug__" : Str)) = false := by decide)
    (hpl : ((backTo pos (starEach [] X.env)).any (·.1) || (backToKw pos (keywordEach kws X.env)).any (·.1.isNone)) = false := by rfl) : PE X (.Call (.Name x p) [] kws pos) (tE X.K W (callE m fa)) :=
  PE.imp (pe_calK C hr hkw hj hg hall hks hdb hpl) fun _ _ _ h => tE_callK hm h
theorem de_callS (C : CalK X.prog X.w X.K X.mg X.base x k ps ks (fun _ zs => swp zs) (spF X.K m)) (hm : ∀ ds r, m ds = some r → ds.length = ks.length) (hr : Room j X.A) (hkw : PK X kws (tA X.K W fa)) (hj : k ≤ j := by decide) (hg : Gl X x := by rfl)
    (hall : (backToKw pos (keywordEach kws X.env)).all (·.1.isSome) = true := by rfl) (hks : (backToKw pos (keywordEach kws X.env)).filterMap (·.1) = ks := by rfl) (hdb : (x == ("__debug__" : Str)) = false := by decide)
    (hpl : ((backTo pos (starEach [] X.env)).any (·.1) || (backToKw pos (keywordEach kws X.env)).any (·.1.isNone)) = false := by rfl) : PE X (.Call (.Name x p) [] kws pos) (tE X.K W (callE m (swpA fa))) :=
  PE.imp (pe_calK C hr hkw hj hg hall hks hdb hpl) fun _ _ _ h => tE_callS hm h
/-! ### repr -/
theorem callR_or {g : Value} {r1 r2 : List V → Hp → VK → Prop} (h1 : CallR X g r1) (h2 : CallR X g r2) : CallR X g (fun xs H Q => r1 xs H Q ∨ r2 xs H Q) := fun pins s σ H xs us Q I r h => h.elim (h1 pins s σ H xs us Q I r) (h2 pins s σ H xs us Q I r)
def reprD (d : PyData) : Option PyData := match d with
  | .int i => if i.natAbs.log2 < 1920 then some (.str (toString i)) else none
  | .list ds => if (PyData.list ds).showable = true ∧ (PyData.list ds).depth < 60 ∧ (PyData.list ds).shown.length ≤ sizeLine then some (.str (PyData.list ds).shown) else none
  | .tuple ds => if (PyData.tuple ds).showable = true ∧ (PyData.tuple ds).depth < 60 ∧ (PyData.tuple ds).shown.length ≤ sizeLine then some (.str (PyData.tuple ds).shown) else none
  | _ => none
def rReprA (K : PySem.W.Frag) : List V → Hp → VK → Prop := fun xs H Q => (∃ i, xs = [.int i] ∧ i.natAbs.log2 < 1920 ∧ Q (.str (toString i)) H) ∨ rRepr K xs H Q
theorem call_reprA (S : SysK X.K) (hg : X.A.guards = some []) (hu : X.A.units + 64 < cLine) : CallR X (.builtin "repr") (rReprA X.K) := callR_or SkE.call_repr_int (call_reprD S hg hu)
theorem reprD_ok : CalD K (rReprA K) (c1 reprD) := c1_ok fun ow H x d z Q tr hx hz k => by
  unfold reprD at hz
  split at hz
  · obtain ⟨hl, ez⟩ := lim_of hz
    subst ez
    cases hx
    exact .inl ⟨_, rfl, hl, k _ H (Same.id H) (.str _)⟩
  · obtain ⟨⟨h1, h2, h3⟩, ez⟩ := lim_of hz
    subst ez
    cases hx with
    | lst sq dd => exact .inr ⟨_, _, rfl, Dq.same frz_sub _ _ (.lst sq dd), h1, h2, h3, k _ H (Same.id H) (.str _)⟩
  · obtain ⟨⟨h1, h2, h3⟩, ez⟩ := lim_of hz
    subst ez
    cases hx with
    | tup sq dd => exact .inr ⟨_, _, rfl, Dq.same frz_sub _ _ (.tup sq dd), h1, h2, h3, k _ H (Same.id H) (.str _)⟩
  · cases hz
/-- != of texts of any signs -/
def neS : PyData → PyData → Option PyData
  | .str a, .str b => some (.bool (!decide (a = b)))
  | _, _ => none
theorem neS_ok : OpD K rNe neS := by
  intro ow H x y d e z Q tr hx hy hz k
  unfold neS at hz
  split at hz
  · have ez := Option.some.inj hz
    subst ez
    cases hx
    cases hy
    rename_i a b
    refine ⟨rfl, ?_⟩
    have e : (!decide (V.str a = V.str b)) = (!decide (a = b)) := by
      rw [Bool.eq_iff_iff]
      simp
    rw [e]
    exact k _ H (Same.id H) (.bl _)
  · cases hz
/-! ### two blocks, one behind the other -/
theorem execs_app (b : List Stmt) (env : Env) : ∀ a : List Stmt, execs (a ++ b) env = (execs a env >>= fun f => match f with
    | .next => execs b env
    | f => pure f)
  | [] => rfl
  | st :: a => by
    rw [List.cons_append, execs_cons, execs_cons, bind_assoc]
    congr 1
    funext f
    cases f with
    | next => exact execs_app b env a
    | _ => rfl
theorem pss_app {a b : List Stmt} {t u : TS} (h1 : PSs X a t) (h2 : PSs X b u) : PSs X (a ++ b) (tSeq t u) := by
  refine ⟨fun pins s σ H D I h => ?_⟩
  rw [execs_app]
  refine wpAny_bind (thn (h1.run pins s σ H { D with nx := u D } I h) fun f s1 q => ?_)
  cases f with
  | next =>
    obtain ⟨σ', H', I', q⟩ := q
    exact h2.run pins s1 σ' H' D I' q
  | ret v => exact wpAny_pure q
  | brk => exact wpAny_pure q
  | cont => exact wpAny_pure q
theorem dss_app {a b : List Stmt} {g h : SM} (h1 : PSs X a (tS X.K W g)) (h2 : PSs X b (tS X.K W h)) : PSs X (a ++ b) (tS X.K W (seqS g h)) := by
  refine PSs.imp (pss_app h1 h2) fun D σ H hh => ?_
  obtain ⟨ow, E, rr, o, ho, k⟩ := hh
  unfold seqS at ho
  cases q : g E with
  | none =>
    rw [q] at ho
    cases ho
  | some o1 =>
    rw [q] at ho
    refine ⟨ow, E, rr, o1, q, ?_⟩
    cases o1 with
    | nx E1 => exact fun ow' H' σ' r s => ⟨ow', E1, r, o, ho, k.from_ s⟩
    | _ =>
      have e := Option.some.inj ho
      subst e
      exact k
/-- the first three, four statements as one block -/
theorem dss_app3 {s1 s2 s3 : Stmt} {r : List Stmt} {g h : SM} (h1 : PSs X [s1, s2, s3] (tS X.K W g)) (h2 : PSs X r (tS X.K W h)) : PSs X (s1 :: s2 :: s3 :: r) (tS X.K W (seqS g h)) := dss_app h1 h2
theorem dss_app4 {s1 s2 s3 s4 : Stmt} {r : List Stmt} {g h : SM} (h1 : PSs X [s1, s2, s3, s4] (tS X.K W g)) (h2 : PSs X r (tS X.K W h)) : PSs X (s1 :: s2 :: s3 :: s4 :: r) (tS X.K W (seqS g h)) := dss_app h1 h2
end
end Sa

set_option maxHeartbeats 4000000
namespace K19
open PySem PySem.Spec PyProof.Rows L2 He Sa NdefX RZ
/-! repr of what is told: short texts -/
theorem piled_le {ts : List Str} {m : Nat} (h : ∀ t ∈ ts, t.length ≤ m) : piled ts ≤ ts.length * (m + 2) := by
  induction ts with
  | nil => exact Nat.zero_le _
  | cons t r ih =>
    rw [piled_cons, List.length_cons, Nat.succ_mul]
    have := h t List.mem_cons_self
    have := ih fun x hx => h x (List.mem_cons_of_mem _ hx)
    omega
theorem tupleText_le (ts : List Str) : (tupleText ts).length ≤ 3 + piled ts := by
  unfold tupleText
  rw [len_app, len_app]
  have o1 : ("(" : Str).length = 1 := rfl
  have o2 : ((if ts.length == 1 then ",)" else ")" : String) : Str).length ≤ 2 := by
    split <;> decide
  have j : (Str.join ", " ts).length ≤ piled ts := by
    cases ts with
    | nil => exact Nat.le_refl _
    | cons t r =>
      have := join_length_add (t :: r) (by simp)
      omega
  omega
theorem shownAll_map {β : Type} (f : β → PyData) : ∀ l : List β, PyData.shownAll (l.map f) = l.map fun x => (f x).shown
  | [] => rfl
  | x :: l => by
    show (f x).shown :: PyData.shownAll (l.map f) = _
    rw [shownAll_map f l]
    rfl
theorem shownAll_len : ∀ l : List PyData, (PyData.shownAll l).length = l.length
  | [] => rfl
  | x :: l => by
    show (x.shown :: PyData.shownAll l).length = _
    rw [List.length_cons, shownAll_len l, List.length_cons]
theorem shownAll_le {m : Nat} : ∀ {l : List PyData}, (∀ d ∈ l, d.shown.length ≤ m) → ∀ t ∈ PyData.shownAll l, t.length ≤ m
  | [], _, t, ht => by cases ht
  | x :: l, h, t, ht => by
    have ht : t ∈ x.shown :: PyData.shownAll l := ht
    rcases List.mem_cons.mp ht with rfl | ht
    · exact h x List.mem_cons_self
    · exact shownAll_le (fun d hd => h d (List.mem_cons_of_mem _ hd)) t ht
theorem str_shown {x : Str} (h : PyData.strOk x = true) (hl : x.length ≤ 100) : (PyData.str x).shown.length ≤ 1002 := by
  have r := StrLaws.reprText_len x (fun c hc => by
    have h2 : x.cps.toList.all (· < 0x110000) = true := by
      unfold PyData.strOk at h
      rw [Array.all_toList]
      exact h
    have := List.all_eq_true.mp h2 c hc
    have h3 : c < 0x110000 := of_decide_eq_true this
    exact Nat.lt_trans h3 (by decide))
  show (reprText x).length ≤ 1002
  omega
theorem tup_shown {l : List PyData} {m n : Nat} (h : ∀ d ∈ l, d.shown.length ≤ m) (hl : l.length ≤ n) : (PyData.tuple l).shown.length ≤ 3 + n * (m + 2) := by
  show (tupleText (PyData.shownAll l)).length ≤ _
  have h1 := tupleText_le (PyData.shownAll l)
  have h2 := piled_le (shownAll_le h)
  rw [shownAll_len] at h2
  have h3 := Nat.mul_le_mul_right (m + 2) hl
  omega
theorem showAll : ∀ {l : List PyData}, (∀ d ∈ l, d.showable = true) → PyData.showableAll l = true
  | [], _ => rfl
  | x :: l, h => by
    show (x.showable && PyData.showableAll l) = true
    rw [h x List.mem_cons_self, showAll fun d hd => h d (List.mem_cons_of_mem _ hd)]
    rfl
theorem reprD_hist {hist : List PyData} (h : ∀ d ∈ hist, ∃ x y, d = .tuple [.str x, .str y] ∧ PyData.strOk x = true ∧ PyData.strOk y = true ∧ x.length ≤ 100 ∧ y.length ≤ 100) (hl : hist.length ≤ 100) :
    reprD (.tuple hist) = some (.str (PyData.tuple hist).shown) ∧ reprD (.tuple (hist.map (part 1))) = some (.str (PyData.tuple (hist.map (part 1))).shown) := by
  have one : ∀ d ∈ hist, d.shown.length ≤ 2011 ∧ d.showable = true := fun d hd => by
    obtain ⟨x, y, rfl, hx, hy, lx, ly⟩ := h d hd
    refine ⟨?_, rfl⟩
    have := tup_shown (l := [.str x, .str y]) (m := 1002) (n := 2) (fun e he => by
      simp only [List.mem_cons, List.not_mem_nil, or_false] at he
      rcases he with rfl | rfl
      · exact str_shown hx lx
      · exact str_shown hy ly) (by simp)
    omega
  have two : ∀ d ∈ hist.map (part 1), d.shown.length ≤ 1002 ∧ d.showable = true ∧ d.depth = 0 := fun d hd => by
    obtain ⟨q, hq, rfl⟩ := List.mem_map.mp hd
    obtain ⟨x, y, rfl, hx, hy, lx, ly⟩ := h q hq
    exact ⟨str_shown hy ly, rfl, by simp [part, PyData.depth]⟩
  have dep0 : ∀ {l : List PyData}, (∀ d ∈ l, d.depth ≤ 1) → PyData.depthAll l ≤ 1 := fun {l} hd => by
    induction l with
    | nil => simp [PyData.depthAll]
    | cons x l ih =>
      have a := hd x List.mem_cons_self
      have b := ih fun d h => hd d (List.mem_cons_of_mem _ h)
      simp only [PyData.depthAll]
      omega
  have big : 3 + 100 * (2011 + 2) ≤ sizeLine := by decide
  constructor
  · refine if_pos ⟨showAll fun d hd => (one d hd).2, ?_, ?_⟩
    · have := dep0 (l := hist) fun d hd => by
        obtain ⟨x, y, rfl, _⟩ := h d hd
        simp [PyData.depth, PyData.depthAll]
      simp only [PyData.depth]
      omega
    · exact Nat.le_trans (tup_shown (fun d hd => (one d hd).1) hl) big
  · refine if_pos ⟨showAll fun d hd => (two d hd).2.1, ?_, ?_⟩
    · have := dep0 (l := hist.map (part 1)) fun d hd => by rw [(two d hd).2.2]; omega
      simp only [PyData.depth]
      omega
    · exact Nat.le_trans (tup_shown (fun d hd => (two d hd).1) (by rw [List.length_map]; exact hl)) (Nat.le_trans (by omega) big)
end K19

set_option maxHeartbeats 4000000
namespace K19
open PySem PySem.Spec PyProof.Rows L2 He Sa NdefX RZ
open Classical in
/-- three works that all raise c: the list of them is kept nowhere as data; slot w stands for the table T of code objects -/
noncomputable def wkS (T : Addr) (q : Str) (i j w : Nat) (c : Str) : SM := fun E => match E[i]?, E[j]?, E[w]? with
  | some (.dat p), some (.dat d), some (.tab T' q') => if T' = T ∧ q' = q ∧ m_history [p, d] = some (.ex c none) ∧ m_answers [p, d] = some (.ex c none) ∧ m_state_behind [p, d] = some (.ex c none) then some (.nx E) else none
  | _, _, _ => none
theorem ws_wk {E : En} {T : Addr} {q : Str} {i j w : Nat} {c : Str} {p d : PyData} {R : Out → Prop} (h1 : E[i]? = some (.dat p)) (h2 : E[j]? = some (.dat d)) (h3 : E[w]? = some (.tab T q)) (a : m_history [p, d] = some (.ex c none)) (b : m_state_behind [p, d] = some (.ex c none)) (k : R (.nx E)) : Ws (wkS T q i j w c) E R := by
  refine ⟨_, ?_, k⟩
  unfold wkS
  rw [h1, h2, h3]
  exact if_pos ⟨rfl, rfl, a, ans_bad a, b⟩
def lapS : SM := (seqS (asgS (.nm 6) (callW m_word 1 (consA (getV 3) (consA (ret (.int 8)) nilA))))
  (seqS (asgS (.nm 7) (callE m_answered (consA (getV 4) (consA (getV 6) nilA))))
  (seqS (ifS (orT (asB (m2 neS (calE (c1 reprD) (consA (callE m_history (consA (getV 4) (consA (getV 6) nilA))) nilA)) (calE (c1 reprD) (consA (getV 7) nilA)))) (asB (m2 neS (calE (c1 reprD) (consA (callE m_answers (consA (getV 4) (consA (getV 6) nilA))) nilA)) (calE (c1 reprD) (consA (calQ tupQ (sqF (lcE [8] (.nm 8) (itF (.nm 8) (getV 7)) yesT (ixV 8 (ret (.int 1)))))) nilA))))) (retS (ret (.bool false))) nxS)
  (ifS (asB (m2 neS (calE (c1 reprD) (consA (callE m_state_behind (consA (getV 4) (consA (getV 6) nilA))) nilA)) (calE (c1 reprD) (consA (callE m_state (consA (getV 4) (consA (getV 6) nilA))) nilA)))) (retS (ret (.bool false))) nxS))))
/-- the slots of the law -/
abbrev lawE (sc : PyData) (p : DrA) (s : DrS) (x2 : Sk) (h pg : PyData) (x5 x6 x7 x8 x9 x10 x11 x12 : Sk) : En := [.dat sc, .drw p s, x2, .dat h, .dat pg, x5, x6, x7, x8, x9, x10, x11, x12]
theorem neS_self (x : Str) : neS (.str x) (.str x) = some (.bool false) := by
  show some (PyData.bool (!decide (x = x))) = _
  simp
theorem Runs.strs3 {cs rows : List PyData} (h : HouseD cs) (ok : ProgOk cs rows) {st e : Nat} {ws hist : List PyData} (r : Runs cs rows st ws hist e) (hw : ws.all (callNameB cs) = true) : ∀ d ∈ hist, ∃ x y, d = .tuple [.str x, .str y] ∧ PyData.strOk x = true ∧ PyData.strOk y = true ∧ x.length ≤ 100 ∧ y.length ≤ 100 := by
  induction r with
  | nil => exact fun d h => nomatch h
  | snoc r s ih =>
    rename_i e0 j ws0 hist0 w a
    rw [List.all_append, Bool.and_eq_true] at hw
    intro d hd
    rcases List.mem_append.mp hd with hd | hd
    · exact ih hw.1 d hd
    · rw [List.mem_singleton] at hd
      have hwn : callNameB cs w = true := by simpa using hw.2
      obtain ⟨i, ps, e1, e4, e2, e3⟩ := s.ex
      cases w with
      | str x =>
        have rb := List.all_eq_true.mp ok.all _ (List.mem_of_getElem? e2)
        have rb : (ps.length == cs.length && (cs.zip ps).all fun z => pairB z.1 (rows.length : Nat) z.2) = true := rb
        rw [Bool.and_eq_true] at rb
        obtain ⟨c, hc⟩ := Option.isSome_iff_exists.mp e4
        have pb := List.all_eq_true.mp rb.2 (c, _) (List.mem_of_getElem? (List.getElem?_zip_eq_some.mpr ⟨hc, e3⟩))
        have pb : (ansB c a && (decide (0 ≤ ((j : Nat) : Int)) && decide (((j : Nat) : Int) < (rows.length : Nat)))) = true := pb
        rw [Bool.and_eq_true] at pb
        obtain ⟨nx, ds, ec, _, _, okd, _, _⟩ := h.all c (List.mem_of_getElem? hc)
        cases a with
        | str y =>
          have hy : memS y (tupOf (part 2 c)) = true := pb.1
          rw [ec] at hy
          obtain ⟨k, hk⟩ := mem_at okd.strs hy
          have hm := List.mem_of_getElem? hk
          have n3 := names_small h hwn
          exact ⟨x, y, hd, name_ok n3.1, name_ok (List.all_eq_true.mp okd.all _ hm), by omega, by have := okd.few _ hm y rfl; omega⟩
        | _ => exact absurd pb.1 (by simp [ansB])
      | _ => cases hwn
/-- a word, and what it does -/
structure WordD (cs rows : List PyData) (ws hist : List PyData) (e : Nat) : Prop where
  all : ws.all (callNameB cs) = true
  few : ws.length ≤ 8
  run : Runs cs rows 0 ws hist e
theorem lap_ok {sc : PyData} {p : DrA} {s : DrS} {n : Nat} {cs rows : List PyData} {x2 x5 x6 x7 x8 x9 x10 x11 x12 : Sk} (H : HouseD cs) (ok : ProgOk cs rows) (hr : rows.length ≤ 4) (hd : Dk n s) (hn : n + 10 < 1000000000000) {R : Out → Prop}
    (k : ∀ s' ws hist e y8, Dk (n + 10) s' → WordD cs rows ws hist e → R (.nx (lawE sc p s' x2 (hs cs) (pr cs rows) x5 (.dat (.tuple ws)) (.dat (.tuple hist)) y8 x9 x10 x11 x12))) : Ws lapS (lawE sc p s x2 (hs cs) (pr cs rows) x5 x6 x7 x8 x9 x10 x11 x12) R := by
  unfold lapS
  refine ws_seq (ws_asg (wp_draw (i := 1) rfl (pv_cons (pv_get rfl) (pv_cons (pv_ret _) pv_nil)) (word_spec (most := 8) H (by decide)) hd (by omega) fun d s' ⟨ws, ed, hl, hw⟩ hd' => ?_))
  subst ed
  refine ⟨_, rfl, ?_⟩
  show Ws _ (lawE sc p s' x2 (hs cs) (pr cs rows) x5 (.dat (.tuple ws)) x7 x8 x9 x10 x11 x12) _
  have fp : fitD (pr cs rows) = true := sm_fit (b := 9) (by omega) _ (prog_sized (Nat.le_refl _) H ok (by omega)).sm
  have fw : fitD (.tuple ws) = true := fit_word H hw (by omega)
  have pos : 0 < rows.length := by
    cases rows with
    | nil => exact absurd ok.ne (by simp)
    | cons a l => simp
  obtain ⟨hist, e, r⟩ := runs_ex ok hw (st := 0) pos ws.length (Nat.le_refl _)
  rw [List.take_length] at r
  obtain ⟨ph, pst⟩ := p_history ok fp fw hw r
  have pa := p_answers r ph
  have pan := p_answered ok hw (by omega) r
  have pst2 := p_state ok hw r
  have hlen := r.len
  obtain ⟨rp1, rp2⟩ := reprD_hist (r.strs3 H ok hw) (by omega)
  have args : ∀ {y7 y8 : Sk}, Pv (consA (getV 4) (consA (getV 6) nilA)) (lawE sc p s' x2 (hs cs) (pr cs rows) x5 (.dat (.tuple ws)) y7 y8 x9 x10 x11 x12) [pr cs rows, .tuple ws] := fun {y7 y8} => pv_cons (pv_get rfl) (pv_cons (pv_get rfl) pv_nil)
  refine ws_seq (ws_asg ((pv_call args pan).wp ⟨_, rfl, ?_⟩))
  show Ws _ (lawE sc p s' x2 (hs cs) (pr cs rows) x5 (.dat (.tuple ws)) (.dat (.tuple hist)) x8 x9 x10 x11 x12) _
  refine ws_seq (ws_if ?_)
  rw [wp_orT]
  refine (pv_asB (pv_m2 (pv_calE (pv_cons (pv_call args ph) pv_nil) rp1) (pv_calE (pv_cons (pv_get rfl) pv_nil) rp1) (neS_self _))).wp ?_
  rw [if_neg Bool.false_ne_true, wp_asBi, wp_m2]
  refine (pv_calE (pv_cons (pv_call args pa) pv_nil) rp2).wp ?_
  rw [wp_calE, wp_cons, wp_calQ, wp_sqF]
  refine wp_map ((pv_itF (pv_get rfl) rfl (by simp [fitT])).wp ⟨part 1, fun q hq => ?_, ?_⟩)
  · obtain ⟨w, a, rfl⟩ := r.pairs q hq
    exact ⟨_, rfl, (pv_ixV rfl (pv_ret _) (ix_tup (i := 1) rfl)).wp ⟨rfl, rfl⟩⟩
  · refine ⟨.tuple (hist.map (part 1)), rfl, wp_nil.mpr ⟨_, rp2, _, neS_self _, ?_⟩⟩
    show (if false = true then _ else _)
    rw [if_neg Bool.false_ne_true]
    refine ws_nx ?_
    show Ws _ (lawE sc p s' x2 (hs cs) (pr cs rows) x5 (.dat (.tuple ws)) (.dat (.tuple hist)) .un x9 x10 x11 x12) _
    have rpi : c1 reprD [.int (e : Nat)] = some (.str (toString ((e : Nat) : Int))) := if_pos (str_int (by have := r.lt pos; omega)).2.2
    refine ws_ifv (b := false) (pv_asB (pv_m2 (pv_calE (pv_cons (pv_call args pst) pv_nil) rpi) (pv_calE (pv_cons (pv_call args pst2) pv_nil) rpi) (neS_self _))) (fun h => nomatch h) fun _ => ws_nx ?_
    exact k s' ws hist e .un hd' ⟨hw, hl, r⟩
def nameS : SM := (ifS (orT (asB (m2 neD (callE m_history (swpA (consA (getV 6) (consA (getV 4) nilA)))) (getV 7))) (asB (m2 neD (callE m_answers (swpA (consA (getV 6) (consA (getV 4) nilA)))) (calQ tupQ (sqF (lcE [8] (.nm 8) (itF (.nm 8) (getV 7)) yesT (ixV 8 (ret (.int 1))))))))) (retS (ret (.bool false))) nxS)
def nameS2 : SM := (ifS (orT (asB (m2 neD (callE m_state_behind (swpA (consA (getV 6) (consA (getV 4) nilA)))) (callE m_state (consA (getV 4) (consA (getV 6) nilA))))) (asB (m2 isnotE (callE m_is_program (consA (getV 4) nilA)) (ret (.bool true))))) (retS (ret (.bool false))) nxS)
theorem name_ok_law {sc : PyData} {p : DrA} {s : DrS} {cs rows ws hist : List PyData} {e : Nat} {x2 x5 x8 x9 x10 x11 x12 : Sk} (H : HouseD cs) (ok : ProgOk cs rows) (hr : rows.length ≤ 4) (w : WordD cs rows ws hist e) {R : Out → Prop}
    (k : ∀ y8, R (.nx (lawE sc p s x2 (hs cs) (pr cs rows) x5 (.dat (.tuple ws)) (.dat (.tuple hist)) y8 x9 x10 x11 x12))) : Ws (seqS nameS nameS2) (lawE sc p s x2 (hs cs) (pr cs rows) x5 (.dat (.tuple ws)) (.dat (.tuple hist)) x8 x9 x10 x11 x12) R := by
  have fp : fitD (pr cs rows) = true := sm_fit (b := 9) (by omega) _ (prog_sized (Nat.le_refl _) H ok (by omega)).sm
  have wf := w.few
  have fw : fitD (.tuple ws) = true := fit_word H w.all (by omega)
  have r := w.run
  obtain ⟨ph, pst⟩ := p_history ok fp fw w.all r
  have pa := p_answers r ph
  have pst2 := p_state ok w.all r
  obtain ⟨sh1, sh2⟩ := hist_shaped H ok r w.all
  have args : ∀ {y8 : Sk}, Pv (swpA (consA (getV 6) (consA (getV 4) nilA))) (lawE sc p s x2 (hs cs) (pr cs rows) x5 (.dat (.tuple ws)) (.dat (.tuple hist)) y8 x9 x10 x11 x12) [pr cs rows, .tuple ws] := fun {y8} => by
    have two : Pv (consA (getV 6) (consA (getV 4) nilA)) (lawE sc p s x2 (hs cs) (pr cs rows) x5 (.dat (.tuple ws)) (.dat (.tuple hist)) y8 x9 x10 x11 x12) [.tuple ws, pr cs rows] := pv_cons (pv_get rfl) (pv_cons (pv_get rfl) pv_nil)
    exact pv_bnd two rfl
  have args2 : ∀ {y8 : Sk}, Pv (consA (getV 4) (consA (getV 6) nilA)) (lawE sc p s x2 (hs cs) (pr cs rows) x5 (.dat (.tuple ws)) (.dat (.tuple hist)) y8 x9 x10 x11 x12) [pr cs rows, .tuple ws] := fun {y8} => pv_cons (pv_get rfl) (pv_cons (pv_get rfl) pv_nil)
  unfold nameS nameS2
  refine ws_seq (ws_if ?_)
  rw [wp_orT]
  refine (pv_asB (pv_m2 (pv_call args ph) (pv_get rfl) (neD_self sh1))).wp ?_
  rw [if_neg Bool.false_ne_true, wp_asBi, wp_m2]
  refine (pv_call args pa).wp ?_
  rw [wp_calQ, wp_sqF]
  refine wp_map ((pv_itF (pv_get rfl) rfl (by simp [fitT])).wp ⟨part 1, fun q hq => ?_, ?_⟩)
  · obtain ⟨w, a, rfl⟩ := r.pairs q hq
    exact ⟨_, rfl, (pv_ixV rfl (pv_ret _) (ix_tup (i := 1) rfl)).wp ⟨rfl, rfl⟩⟩
  · refine ⟨.tuple (hist.map (part 1)), rfl, _, neD_self sh2, ?_⟩
    show (if false = true then _ else _)
    rw [if_neg Bool.false_ne_true]
    refine ws_nx ?_
    show Ws _ (lawE sc p s x2 (hs cs) (pr cs rows) x5 (.dat (.tuple ws)) (.dat (.tuple hist)) .un x9 x10 x11 x12) _
    refine ws_ifv (b := false) (pv_or_f (pv_asB (pv_m2 (pv_call args pst) (pv_call args2 pst2) (neD_int _ _))) (by simp) (pv_asB (pv_m2 (pv_call (pv_cons (pv_get rfl) pv_nil) (p_is_program _ fp)) (pv_ret _) ?_))) (fun h => nomatch h) fun _ => ws_nx (k .un)
    rw [prog_of ok]
    rfl
noncomputable def bendS : SM := (seqS (asgS (.nm 9) (callW m_bent 1 (consA (ifE (asB (m2 gtD (callW m_take 1 (consA (ret (.int 4)) nilA)) (ret (.int 0)))) (getV 4) (callW m_bent 1 (consA (getV 4) (consA (frzE (lstE nilA)) nilA)))) (consA (callE m_all_names (consA (getV 3) nilA)) nilA))))
  (ifS (orT (asB (m2 neD (callE m_is_program (consA (getV 9) nilA)) (callE m_l_is_program (consA (getV 9) nilA)))) (asB (m2 neD (callE m_is_program (consA (getV 9) nilA)) (callE m_l_is_program (consA (getV 9) nilA))))) (retS (ret (.bool false))) nxS))
theorem neD_bool (b : Bool) : neD (.bool b) (.bool b) = some (.bool false) := neD_self (by simp [SeqAt.shaped, PyData.canLay0, PyData.depth])
theorem bend_ok {sc : PyData} {p : DrA} {s : DrS} {n : Nat} {cs rows : List PyData} {x2 x5 x6 x7 x8 x9 x10 x11 x12 : Sk} (H : HouseD cs) (ok : ProgOk cs rows) (hr : rows.length ≤ 4) (hd : Dk n s) (hn : n + 10 < 1000000000000) {R : Out → Prop}
    (k : ∀ s' d, Dk (n + 10) s' → fitD d = true → R (.nx (lawE sc p s' x2 (hs cs) (pr cs rows) x5 x6 x7 x8 (.dat d) x10 x11 x12))) : Ws bendS (lawE sc p s x2 (hs cs) (pr cs rows) x5 x6 x7 x8 x9 x10 x11 x12) R := by
  have sz := prog_sized (b := 9) (Nat.le_refl _) H ok (by omega)
  obtain ⟨L, hL, nm⟩ := p_all_names H
  unfold bendS
  -- the thing that is bent
  have key : Wp (ifE (asB (m2 gtD (callW m_take 1 (consA (ret (.int 4)) nilA)) (ret (.int 0)))) (getV 4) (callW m_bent 1 (consA (getV 4) (consA (frzE (lstE nilA)) nilA)))) (lawE sc p s x2 (hs cs) (pr cs rows) x5 x6 x7 x8 x9 x10 x11 x12)
      fun d E => ∃ s1, E = lawE sc p s1 x2 (hs cs) (pr cs rows) x5 x6 x7 x8 x9 x10 x11 x12 ∧ Dk (n + 5) s1 ∧ smD 10 d = true ∧ tdep d ≤ 14 ∧ tcnt d ≤ 10000 := by
    rw [wp_ifE, wp_asBi, wp_m2]
    refine wp_draw (i := 1) rfl (pv_cons (pv_ret _) pv_nil) (take_spec 4 (by decide) (by decide)) hd (by omega) fun d s1 ⟨v, ev, _⟩ h1 => ?_
    subst ev
    refine (pv_ret _).wp ⟨_, rfl, ?_⟩
    show (if decide (((v : Nat) : Int) > 0) = true then _ else _)
    cases decide (((v : Nat) : Int) > 0) with
    | true =>
      rw [if_pos rfl]
      exact (pv_get (E := lawE sc p s1 x2 (hs cs) (pr cs rows) x5 x6 x7 x8 x9 x10 x11 x12) (i := 4) rfl).wp ⟨s1, rfl, h1.mono (by omega), sm_more (by omega) _ sz.sm, by have := sz.dep; omega, by have := sz.cnt; omega⟩
    | false =>
      rw [if_neg Bool.false_ne_true]
      refine wp_draw (i := 1) rfl (pv_cons (pv_get rfl) (pv_cons (pv_frz (pv_lst pv_nil (Nat.zero_le _))) pv_nil)) (bent_spec (b := 9) (by omega) (by omega) sz.sm (by have := sz.cnt; omega) (by have := sz.dep; omega) ⟨Nat.zero_le _, fun x hx => nomatch hx⟩) h1 (by omega) fun d s2 hb h2 => ?_
      exact ⟨s2, rfl, h2, hb.sm, by have := sz.dep; have := hb.dep; omega, by have := sz.cnt; have := hb.cnt; omega⟩
  obtain ⟨d, E, e, s1, rfl, h1, q1, q2, q3⟩ := key
  have nm10 : NmL 10 L := ⟨nm.1, fun x hx => let ⟨t, et, ht⟩ := nm.2 x hx; ⟨t, et, sm_more (by omega) x ht⟩⟩
  obtain ⟨d2, s2, e2, hb, h2⟩ := bent_spec (b := 10) (by omega) (by omega) q1 q3 q2 nm10 p (n + 5) s1 h1 (by omega)
  have f2 : fitD d2 = true := sm_fit (by omega) d2 hb.sm
  refine ws_seq (ws_asg (wp_callW (i := 1) rfl ?_))
  rw [wp_cons]
  refine ⟨d, _, e, wp_cons.mpr ?_⟩
  refine (pv_call (pv_cons (pv_get rfl) pv_nil) hL).wp (wp_nil.mpr ?_)
  refine ⟨p, s1, rfl, d2, s2, e2, _, rfl, ?_⟩
  show Ws _ (lawE sc p s2 x2 (hs cs) (pr cs rows) x5 x6 x7 x8 (.dat d2) x10 x11 x12) _
  have t : Pv (asB (m2 neD (callE m_is_program (consA (getV 9) nilA)) (callE m_l_is_program (consA (getV 9) nilA)))) (lawE sc p s2 x2 (hs cs) (pr cs rows) x5 x6 x7 x8 (.dat d2) x10 x11 x12) false := pv_asB (pv_m2 (pv_call (pv_cons (pv_get rfl) pv_nil) (p_is_program d2 f2)) (pv_call (pv_cons (pv_get rfl) pv_nil) (p_l_is_program d2 f2)) (neD_bool _))
  exact ws_ifv (b := false) (pv_or_f t rfl t) (fun h => nomatch h) fun _ => ws_nx (k s2 d2 (h2.mono (by omega)) f2)
end K19

set_option maxHeartbeats 4000000
namespace K19
open PySem PySem.Spec PyProof.Rows L2 He Sa NdefX RZ
theorem ws_assoc {a b c : SM} {E : En} {R : Out → Prop} (h : Ws (seqS (seqS a b) c) E R) : Ws (seqS a (seqS b c)) E R := by
  obtain ⟨o, e, q⟩ := h
  refine ⟨o, ?_, q⟩
  rw [← e]
  unfold seqS
  cases h1 : a E with
  | none => rfl
  | some o1 => cases o1 <;> rfl
noncomputable def roundS (T : Addr) (q : Str) : SM := (seqS (asgS (.nm 3) (callW m_house 1 nilA))
  (seqS (asgS (.nm 4) (callW m_program 1 (consA (getV 3) (consA (ret (.int 4)) nilA))))
  (seqS (loopS (.nm 5) (rng1 (consA (ret (.int 3)) nilA)) lapS)
  (seqS nameS (seqS nameS2
  (seqS (loopS (.nm 5) (rng1 (consA (ret (.int 4)) nilA)) bendS)
  (seqS (asgS (.nm 10) (callW m_bad_word 1 (consA (getV 3) (consA (getV 6) nilA))))
  (seqS (wkS T q 4 10 11 "BadWord") (ifS (notT (asB (callE m_l_is_program (consA (getV 9) nilA)))) (seqS (wkS T q 9 10 11 "BadProgram") nxS) nxS)))))))))
noncomputable def restS (T : Addr) (q : Str) : SM := (seqS (ifS (notT (asB (callW m_long_right 1 nilA))) (retS (ret (.bool false))) nxS)
  (seqS (loopS (.nm 2) (rng1 (consA (m2 addD (ret (.int 2)) (calE (ii2 fun i j => if j < i then j else i) (consA (lenVE 0) (consA (ret (.int 5)) nilA)))) nilA)) (roundS T q))
  (retS (ret (.bool true)))))
theorem round_ok {T : Addr} {q : Str} {sc : PyData} {p : DrA} {s : DrS} {n : Nat} {x2 x3 x4 x5 x6 x7 x8 x9 x10 x12 : Sk} (hd : Dk n s) (hn : n + 200 < 1000000000000) {R : Out → Prop}
    (k : ∀ s' y3 y4 y5 y6 y7 y8 y9 y10, Dk (n + 200) s' → R (.nx [.dat sc, .drw p s', x2, y3, y4, y5, y6, y7, y8, y9, y10, .tab T q, x12])) : Ws (roundS T q) [.dat sc, .drw p s, x2, x3, x4, x5, x6, x7, x8, x9, x10, .tab T q, x12] R := by
  unfold roundS
  refine ws_seq (ws_asg (wp_draw (i := 1) rfl pv_nil house_spec hd (by omega) fun d s1 ⟨cs, ed, H⟩ h1 => ?_))
  subst ed
  refine ⟨_, rfl, ?_⟩
  show Ws _ [.dat sc, .drw p s1, x2, .dat (hs cs), x4, x5, x6, x7, x8, x9, x10, .tab T q, x12] _
  refine ws_seq (ws_asg (wp_draw (i := 1) rfl (pv_cons (pv_get rfl) (pv_cons (pv_ret _) pv_nil)) (program_spec (most := 4) H (by decide) (by decide)) h1 (by omega) fun d s2 ⟨rows, ed, ok, hr⟩ h2 => ?_))
  subst ed
  refine ⟨_, rfl, ?_⟩
  show Ws _ (lawE sc p s2 x2 (hs cs) (pr cs rows) x5 x6 x7 x8 x9 x10 (.tab T q) x12) _
  have sz := prog_sized (b := 9) (Nat.le_refl _) H ok (by omega)
  have fp : fitD (pr cs rows) = true := sm_fit (by omega) _ sz.sm
  refine ws_seq (ws_for ((pv_rng1 (n := 3) (pv_cons (pv_ret _) pv_nil) (by decide)).wp ⟨fun i E => ∃ s3 y5 y6 y7 y8, E = lawE sc p s3 x2 (hs cs) (pr cs rows) y5 y6 y7 y8 x9 x10 (.tab T q) x12 ∧ Dk (n + 85 + 10 * i) s3 ∧ (i = 0 ∨ ∃ ws hist e, y6 = .dat (.tuple ws) ∧ y7 = .dat (.tuple hist) ∧ WordD cs rows ws hist e),
    ⟨s2, _, _, _, _, rfl, h2.mono (by omega), .inl rfl⟩, ?_, ?_⟩))
  · rintro i E d hdi ⟨s3, y5, y6, y7, y8, rfl, h3, _⟩
    obtain ⟨hi, rfl⟩ := rng_at hdi
    refine ⟨_, rfl, ?_⟩
    show Ws lapS (lawE sc p s3 x2 (hs cs) (pr cs rows) (.dat (.int (i : Nat))) y6 y7 y8 x9 x10 (.tab T q) x12) _
    exact lap_ok H ok hr h3 (by omega) fun s' ws hist e z8 hd' wd => ⟨s', _, _, _, _, rfl, hd'.mono (by omega), .inr ⟨ws, hist, e, rfl, rfl, wd⟩⟩
  · rintro E ⟨s3, y5, y6, y7, y8, rfl, h3, hw⟩
    rw [List.length_map, List.length_range] at h3 hw
    rcases hw with hw | ⟨ws, hist, e, rfl, rfl, wd⟩
    · exact absurd hw (by decide)
    refine ws_assoc (ws_seq (name_ok_law H ok hr wd fun z8 => ?_))
    refine ws_seq (ws_for ((pv_rng1 (n := 4) (pv_cons (pv_ret _) pv_nil) (by decide)).wp ⟨fun i E => ∃ s4 y5 y9, E = lawE sc p s4 x2 (hs cs) (pr cs rows) y5 (.dat (.tuple ws)) (.dat (.tuple hist)) z8 y9 x10 (.tab T q) x12 ∧ Dk (n + 115 + 10 * i) s4 ∧ (i = 0 ∨ ∃ d, y9 = .dat d ∧ fitD d = true),
      ⟨s3, _, _, rfl, h3.mono (by omega), .inl rfl⟩, ?_, ?_⟩))
    · rintro i E d hdi ⟨s4, y5, y9, rfl, h4, _⟩
      obtain ⟨hi, rfl⟩ := rng_at hdi
      refine ⟨_, rfl, ?_⟩
      show Ws bendS (lawE sc p s4 x2 (hs cs) (pr cs rows) (.dat (.int (i : Nat))) (.dat (.tuple ws)) (.dat (.tuple hist)) z8 y9 x10 (.tab T q) x12) _
      exact bend_ok H ok hr h4 (by omega) fun s' d hd' fd => ⟨s', _, _, rfl, hd'.mono (by omega), .inr ⟨d, rfl, fd⟩⟩
    · rintro E ⟨s4, y5, y9, rfl, h4, ht⟩
      rw [List.length_map, List.length_range] at h4 ht
      rcases ht with ht | ⟨th, rfl, fth⟩
      · exact absurd ht (by decide)
      have wf := wd.few
      have fw : fitD (.tuple ws) = true := fit_word H wd.all (by omega)
      refine ws_seq (ws_asg (wp_draw (i := 1) rfl (pv_cons (pv_get rfl) (pv_cons (pv_get rfl) pv_nil)) (bad_word_spec H fw (by omega)) h4 (by omega) fun bd s5 ⟨fb, nb⟩ h5 => ?_))
      refine ⟨_, rfl, ?_⟩
      show Ws _ (lawE sc p s5 x2 (hs cs) (pr cs rows) y5 (.dat (.tuple ws)) (.dat (.tuple hist)) z8 (.dat th) (.dat bd) (.tab T q) x12) _
      obtain ⟨b1, b2⟩ := hist_badW ok fp fb nb
      refine ws_seq (ws_wk (p := pr cs rows) (d := bd) rfl rfl rfl b1 b2 ?_)
      show Ws _ (lawE sc p s5 x2 (hs cs) (pr cs rows) y5 (.dat (.tuple ws)) (.dat (.tuple hist)) z8 (.dat th) (.dat bd) (.tab T q) x12) _
      have test : Pv (notT (asB (callE m_l_is_program (consA (getV 9) nilA)))) (lawE sc p s5 x2 (hs cs) (pr cs rows) y5 (.dat (.tuple ws)) (.dat (.tuple hist)) z8 (.dat th) (.dat bd) (.tab T q) x12) (!progB th) := pv_not (pv_asB (pv_call (pv_cons (pv_get rfl) pv_nil) (p_l_is_program th fth)))
      refine ws_ifv test (fun hp => ?_) fun _ => ws_nx (k s5 _ _ _ _ _ _ _ _ (h5.mono (by omega)))
      have hp : progB th = false := not_t hp
      obtain ⟨c1, c2⟩ := hist_badP (d := bd) fth hp
      exact ws_seq (ws_wk (p := th) (d := bd) rfl rfl rfl c1 c2 (ws_nx (k s5 _ _ _ _ _ _ _ _ (h5.mono (by omega)))))
theorem rest_ok {T : Addr} {q : Str} {ns : List PyData} {p : DrA} {s : DrS} (hl : ns.length ≤ 63) (hd : Dk 0 s) : Ws (restS T q) [.dat (.list ns), .drw p s, .un, .un, .un, .un, .un, .un, .un, .un, .un, .tab T q, .un] fun o => ∃ E, o = .rt (.bool true) E := by
  unfold restS
  refine ws_seq (ws_if ?_)
  rw [wp_notT, wp_asBi]
  refine wp_draw (i := 1) rfl pv_nil long_spec hd (by omega) fun d s1 ed h1 => ?_
  subst ed
  show (if (!true) = true then _ else _)
  rw [if_neg (by decide)]
  refine ws_nx (ws_seq ?_)
  show Ws _ [.dat (.list ns), .drw p s1, .un, .un, .un, .un, .un, .un, .un, .un, .un, .tab T q, .un] _
  obtain ⟨m, hm, hm2⟩ : ∃ m : Nat, (if (5 : Int) < ((ns.length : Nat) : Int) then (5 : Int) else ((ns.length : Nat) : Int)) = ((m : Nat) : Int) ∧ m ≤ 5 := by
    by_cases h : (5 : Int) < ((ns.length : Nat) : Int)
    · exact ⟨5, by rw [if_pos h]; rfl, Nat.le_refl _⟩
    · exact ⟨ns.length, by rw [if_neg h], by omega⟩
  have many : Pv (m2 addD (ret (.int 2)) (calE (ii2 fun i j => if j < i then j else i) (consA (lenVE 0) (consA (ret (.int 5)) nilA)))) [.dat (.list ns), .drw p s1, .un, .un, .un, .un, .un, .un, .un, .un, .un, .tab T q, .un] (.int ((2 + m : Nat) : Int)) := by
    refine pv_m2 (e := .int (m : Nat)) (pv_ret _) (pv_calE (pv_cons (pv_len (d := .list ns) rfl rfl) (pv_cons (pv_ret _) pv_nil)) ?_) (by show some (PyData.int (2 + ((m : Nat) : Int))) = some (PyData.int ((2 + m : Nat) : Int)); congr 2)
    show some (PyData.int (if (5 : Int) < ((ns.length : Nat) : Int) then (5 : Int) else ((ns.length : Nat) : Int))) = _
    rw [hm]
  refine ws_for ((pv_rng1 (pv_cons many pv_nil) (by omega)).wp ⟨fun i E => ∃ s2 x2 x3 x4 x5 x6 x7 x8 x9 x10 x12, E = [.dat (.list ns), .drw p s2, x2, x3, x4, x5, x6, x7, x8, x9, x10, .tab T q, x12] ∧ Dk (300 + 200 * i) s2, ⟨s1, _, _, _, _, _, _, _, _, _, _, rfl, h1.mono (by omega)⟩, ?_, ?_⟩)
  · rintro i E d hdi ⟨s2, x2, x3, x4, x5, x6, x7, x8, x9, x10, x12, rfl, h2⟩
    obtain ⟨hi, rfl⟩ := rng_at hdi
    refine ⟨_, rfl, ?_⟩
    show Ws (roundS T q) [.dat (.list ns), .drw p s2, .dat (.int (i : Nat)), x3, x4, x5, x6, x7, x8, x9, x10, .tab T q, x12] _
    exact round_ok h2 (by omega) fun s' y3 y4 y5 y6 y7 y8 y9 y10 hd' => ⟨s', _, _, _, _, _, _, _, _, _, _, rfl, hd'.mono (by omega)⟩
  · rintro E ⟨s2, x2, x3, x4, x5, x6, x7, x8, x9, x10, x12, rfl, h2⟩
    exact ws_retv (pv_ret _) ⟨_, rfl⟩
end K19

set_option maxHeartbeats 4000000
namespace K19
open PySem PySem.Spec PyProof.Rows L2 He Sa NdefX RZ
abbrev N_law : List Str := ["_law_script", "_law_draw", "_law_turn", "_law_house_here", "_law_program_here", "_law_lap", "_law_word_here", "_law_due", "_law_step", "_law_thing", "_law_strange", "_law_works", "_law_work"]
theorem sc_law : FnScope N_law ["_law_script"] (defScope slaw) := ⟨rfl, rfl, rfl, by decide +kernel, rfl, by decide +kernel, by decide +kernel⟩
def forB : Stmt → List Stmt
  | .For _ _ b _ _ => b
  | _ => []
def ifB : Stmt → List Stmt
  | .If _ b _ _ => b
  | _ => []
def nth (l : List Stmt) (i : Nat) : Stmt := l.getD i (.Pass ⟨0, 0, 0, 0⟩)
abbrev lawLoop : List Stmt := forB (nth (defBody slaw) 2)
abbrev lawIf : List Stmt := ifB (nth lawLoop 11)
abbrev lawQ : Str := (("law" : Str) ++ ".<locals>.") ++ "<lambda>"

end K19

set_option maxHeartbeats 4000000
namespace K19
open PySem PySem.Spec PyProof.Rows L2 He Sa NdefX RZ
/-- the reading of a block of three lambdas: the list of them in slot 11, each of them asked in slot 12 -/
abbrev lamT {X : Cx} {k : Nat} (tb : Addr) (D : Lam X k) : TE := tLam tb (X.env.qual ++ "<lambda>") D.params D.body D.scope (cloFrom X.env.cells D.scope.names [])
def condT (X : Cx) (k : Nat) (C : Addr) (σ : L2.St) : TT := tNot (tB (tCB (rIsE2 X.K) (tCons (fun σ' H' Q => tCons (tVar 12) tNil σ' H' fun vs H1 => vs.length ≤ sizeLine ∧ tErr X k σ vs H1 Q) (tCons (tC (.ref C)) tNil))))
def blkT {X : Cx} {k : Nat} (tb C : Addr) (D1 D2 D3 : Lam X k) : TS := tSeq (tAsg (tLst (tCons (lamT tb D1) tNil)) (gName 11))
  (tSeq (tDrop (tBM X.K "list" rAppend (tVar 11) (tCons (lamT tb D2) tNil)))
  (tSeq (tDrop (tBM X.K "list" rAppend (tVar 11) (tCons (lamT tb D3) tNil)))
  (tIfS (tTest (tOp (rNeD X.K) (tLcN (iList X.K (tVar 11)) (gName 12) (condT X k C) [12]) (tLst tNil))) (tRet (tC (.bl false))) tNext)))
/-- the lambda raises the error C -/
def Raises {X : Cx} {k : Nat} (C : Addr) (En : En) (D : Lam X k) : Prop := ∀ (ow : Ow) (σ : L2.St) (H : Hp), R X.K (out0 ow) (dats En) σ H → ∀ (E' : XK) (Q' : VK), (∀ H', Same H H' → E' (.ref C) none H') → D.tb E' σ H Q'
theorem lt_of_get {α : Type} {l : List α} {i : Nat} {x : α} (h : l[i]? = some x) : i < l.length := (List.getElem?_eq_some_iff.mp h).1
theorem lamO_tbl {q : Str} {p : Arguments} {b : Expr} {sc : Scope} {cl : List (Str × Addr)} {f c : Addr} (ps : Array Value) : LamO q p b sc cl f c ≠ .tbl ps := fun z => by
  unfold LamO at z
  cases z
theorem lamO_lst {q : Str} {p : Arguments} {b : Expr} {sc : Scope} {cl : List (Str × Addr)} {f c : Addr} (ps : List V) : LamO q p b sc cl f c ≠ .lst ps := fun z => by
  unfold LamO at z
  cases z
theorem codeO_lst {q : Str} {c : Addr} (ps : List V) : LamX.CodeO c q ≠ .lst ps := fun z => by
  unfold LamX.CodeO at z
  cases z
/-- what is neither the table nor a list stays -/
def Keeps (H H' : Hp) : Prop := ∀ b o, (∀ ps, o ≠ .tbl ps) → (∀ ps, o ≠ .lst ps) → H b = some o → H' b = some o
theorem at_keeps {X : Cx} {k : Nat} {D : Lam X k} {H H' : Hp} {f c : Addr} (h : D.at H f c) (s : Keeps H H') : D.at H' f c := ⟨s _ _ lamO_tbl lamO_lst h.1, s _ _ LamX.codeO_ne codeO_lst h.2⟩
theorem app_step {X : Cx} {k : Nat} {tb L : Addr} {D : Lam X k} {fs : List V} {ow : Ow} {En : En} {σ : L2.St} {H : Hp} {Q : VK} (r : R X.K ow En σ H) (hw : En[11]? = some (.tab tb (X.env.qual ++ "<lambda>"))) (sL : σ[11]? = some (some (.ref L))) (oL : ow L = some 12) (hL : H L = some (.lst fs)) (few : fs.length < 8)
    (h : ∀ f c H', R X.K ow En σ H' → Stp ow ow H H' → H' L = some (.lst (fs ++ [.ref f])) → D.at H' f c → Keeps H H' → Q .non H') : tBM X.K "list" rAppend (tVar 11) (tCons (lamT tb D) tNil) σ H Q := by
  obtain ⟨_, ps, ep, _⟩ := r.sl 11 _ _ hw sL
  have nP : L ≠ tb := fun z => by
    rw [z, ep] at hL
    cases hL
  refine ⟨_, sL, .inl ⟨rfl, _, .inl (.inl hL)⟩, ?_⟩
  unfold tCons tNil
  refine tLam_R r hw fun f c H1 R1 S1 k1 _ e g => ?_
  have l1 := k1 L _ nP hL
  refine ⟨L, _, _, rfl, rfl, l1, Nat.lt_of_lt_of_le few (by show 8 ≤ sizeLine; decide), ?_⟩
  obtain ⟨R2, S2⟩ := R1.grows (vs := fs ++ [.ref f]) hw oL nP
  refine h f c _ R2 (S1.trans S2) upd_same ⟨?_, ?_⟩ fun b o h1 h2 hb => ?_
  · rw [upd_ne fun z => by rw [z, l1] at e; exact lamO_lst _ (Option.some.inj e).symm]
    exact e
  · rw [upd_ne fun z => by rw [z, l1] at g; exact codeO_lst _ (Option.some.inj g).symm]
    exact g
  · rw [upd_ne fun z => by rw [z, hL] at hb; exact h2 _ (Option.some.inj hb).symm]
    refine k1 b o (fun z => ?_) hb
    rw [z, ep] at hb
    exact h1 _ (Option.some.inj hb).symm
/-- one lambda asked: it raises C -/
theorem cond_ok {X : Cx} {k : Nat} {C f c : Addr} {D : Lam X k} {ow : Ow} {En : En} {σ τ : L2.St} {H : Hp} {N : Hp → Prop} (hC : ExcC X.K C) (hx : PySem.W.exmOne X.K (.ref C) (.ref (ga X.K "PageError")) = some true) (r : R X.K ow En σ H) (hD : Raises C En D) (hat : D.at H f c) (hτ : τ[12]? = some (some (.ref f)))
    (hN : ∀ H', Same H H' → N H') : condT X k C σ τ H fun b H => b = false ∧ N H := by
  have self1 : PySem.W.kitOne X.K (.ref C) (.ref C) = some true := by
    unfold PySem.W.kitOne
    rw [if_pos (beq_self_eq_true _)]
  refine ⟨_, hτ, by show 1 ≤ sizeLine; decide, D, f, c, rfl, hat, fun E' Q' hE _ => hD ow σ H r.dats E' Q' fun H1 s1 => hE _ _ _ hx fun a na => ?_⟩
  exact ⟨a, C, .ref C, .ref C, true, rfl, .bare upd_same, hC, fun u hu => hu, self1, _, rfl, rfl, hN _ (Same.trans s1 (Same.new na))⟩
theorem blk_read {X : Cx} {k : Nat} {tb C : Addr} {D1 D2 D3 : Lam X k} {ow : Ow} {En : En} {σ : L2.St} {H0 : Hp} {D : Ends} (hC : ExcC X.K C) (hx : PySem.W.exmOne X.K (.ref C) (.ref (ga X.K "PageError")) = some true) (r : R X.K ow En σ H0) (hw : En[11]? = some (.tab tb (X.env.qual ++ "<lambda>"))) (h12 : 12 < σ.length)
    (r1 : Raises C En D1) (r2 : Raises C En D2) (r3 : Raises C En D3) (hd : ∀ ow' H' σ', R X.K ow' En σ' H' → Stp ow ow' H0 H' → D.nx σ' H') : blkT tb C D1 D2 D3 D σ H0 := by
  have h11 : 11 < σ.length := by rw [← r.ln]; exact lt_of_get hw
  unfold blkT tSeq tAsg tLst tDrop gName
  show tCons (lamT tb D1) tNil σ H0 _
  unfold tCons
  refine tLam_R r hw fun f1 c1 H1 R1 S1 k1 _ e1 g1 => ⟨by show 1 ≤ sizeLine; decide, fun L nL => ?_⟩
  have R2 : R X.K (give ow L 12) En (σ.set 11 (some (.ref L))) (upd H1 L (.lst [.ref f1])) := (R1.gives nL).setTab hw
  have S2 := S1.trans (Stp.gives (n := 11) (o := .lst [.ref f1]) nL)
  have sL : (σ.set 11 (some (V.ref L)))[11]? = some (some (.ref L)) := List.getElem?_set_self h11
  have oL : give ow L 12 L = some 12 := give_at
  have a1 : D1.at (upd H1 L (.lst [.ref f1])) f1 c1 := ⟨by rw [upd_ne (ne_of_none e1 nL)]; exact e1, by rw [upd_ne (ne_of_none g1 nL)]; exact g1⟩
  have l1 : upd H1 L (.lst [.ref f1]) L = some (.lst [.ref f1]) := upd_same
  have h12' : 12 < (σ.set 11 (some (V.ref L))).length := by rw [List.length_set]; exact h12
  show tBM X.K "list" rAppend (tVar 11) (tCons (lamT tb D2) tNil) (σ.set 11 (some (V.ref L))) (upd H1 L (.lst [.ref f1])) _
  generalize upd H1 L (.lst [.ref f1]) = H2 at *
  generalize σ.set 11 (some (V.ref L)) = σ2 at *
  generalize give ow L 12 = ow2 at *
  clear k1 e1 g1 nL S1 R1
  refine app_step R2 hw sL oL l1 (Nat.le_of_ble_eq_true rfl) fun f2 c2 H3 R3 S3 l3 a2 k3 => ?_
  have a1 := at_keeps a1 k3
  refine app_step R3 hw sL oL l3 (Nat.le_of_ble_eq_true rfl) fun f3 c3 H4 R4 S4 l4 a3 k4 => ?_
  have a1 := at_keeps a1 k4
  have a2 := at_keeps a2 k4
  have S5 := (S2.trans S3).trans S4
  clear S2 S3 S4 k3 k4 R2 R3 l1 l3 r
  have sl : H4 L = some (.lst [.ref f1, .ref f2, .ref f3]) := l4
  unfold tIfS tTest tOp tLcN iList tNil
  dsimp only
  refine ⟨_, sL, L, rfl, ⟨_, .inl (.inl sl)⟩, fun Dl nD => ?_⟩
  have sm0 : Same H4 (upd H4 Dl (.lst [])) := Same.new nD
  have dl : upd H4 Dl (.lst []) Dl = some (.lst []) := upd_same
  generalize upd H4 Dl (.lst []) = H5 at *
  refine ⟨fun i m H => m = 3 - i ∧ i ≤ 3 ∧ Same H5 H, ⟨3, rfl, Nat.zero_le _, fun _ _ e => e⟩, ?_⟩
  rintro i m H ⟨rfl, hi, sm⟩
  have s4 := Same.trans sm0 sm
  have lH : SqL X.K H L [.ref f1, .ref f2, .ref f3] := .inl (.inl (s4 _ _ sl))
  rcases Nat.lt_or_ge i 3 with hlt | hge
  · refine .inr ⟨?_, fun H' => Same H5 H', fun H' s' => ⟨3 - (i + 1), by omega, rfl, hlt, s'⟩, ?_⟩
    · match i, hlt with
      | 0, _ => exact ⟨_, _, lH, rfl⟩
      | 1, _ => exact ⟨_, _, lH, rfl⟩
      | 2, _ => exact ⟨_, _, lH, rfl⟩
    · rintro x H' ⟨rfl, hxs⟩
      have ex := hxs _ lH
      have hτ : ((wipe σ2 [12]).set 12 (some x))[12]? = some (some x) := List.getElem?_set_self (by rw [wipe_length]; exact h12')
      refine ⟨(wipe_set (own := [12]) List.mem_cons_self).trans (wipe_wipe σ2 [12]), ?_⟩
      have RH := R4.grow s4
      match i, hlt with
      | 0, _ =>
        cases ex
        exact cond_ok hC hx RH r1 (a1.same s4) hτ fun H' s' => Same.trans sm s'
      | 1, _ =>
        cases ex
        exact cond_ok hC hx RH r2 (a2.same s4) hτ fun H' s' => Same.trans sm s'
      | 2, _ =>
        cases ex
        exact cond_ok hC hx RH r3 (a3.same s4) hτ fun H' s' => Same.trans sm s'
  · have e : i = 3 := Nat.le_antisymm hi hge
    subst e
    refine .inl ⟨⟨_, lH, Nat.le_refl _⟩, by show 0 ≤ sizeLine; decide, fun p np => ?_⟩
    have s6 : Same H (upd H p (.lst [])) := Same.new np
    refine ⟨.list [], .list [], .lst (.inl (.inl (s6 _ _ (sm _ _ dl)))) .nil, .lst (.inl (.inl upd_same)) .nil, by decide +kernel, by decide +kernel, _, rfl, ?_⟩
    rw [show PyData.eqv (.list []) (.list []) = true by decide +kernel]
    refine iteF ?_
    have sE := Same.trans s4 s6
    exact hd _ _ _ (R4.grow sE) (S5.trans (Stp.grow sE))
theorem PSs.impL {X : Cx} {st : List Stmt} {t u : TS} (h : PSs X st t) (k : ∀ D σ H, σ.length = X.N.length → u D σ H → t D σ H) : PSs X st u := ⟨fun pins s σ H D I hw => h.run pins s σ H D I (k _ _ _ I.len hw)⟩
theorem callX_at {m : List PyData → Option FR} {i j : Nat} {En : En} {p d : PyData} {c : Str} (h1 : En[i]? = some (.dat p)) (h2 : En[j]? = some (.dat d)) (hm : m [p, d] = some (.ex c none)) : callX m (consA (getV i) (consA (getV j) nilA)) En = some (.ex c none En) := by
  unfold callX consA bnd getV nilA Sa.ret
  simp only [h1, h2, hm]
theorem raises_of {X : Cx} {k : Nat} {m : List PyData → Option FR} {x a b : Str} {kx : Nat} {ps : List Str} {i1 i2 : Nat} {C : Cal X.prog X.w X.K X.mg X.base x kx ps (spF X.K m)} {hk : kx ≤ k} {p p1 p2 p3 : Pos} {scope : Scope} {L : LamX.LamS X.env.scope scope} {h1 : X.N[i1]? = some a} {h2 : X.N[i2]? = some b}
    {v1 : Vis scope a} {v2 : Vis scope b} {hg : scope.names.lookup x = some .globalImplicit} {db : (x == ("__debug__" : Str)) = false} {d1 : (a == ("__debug__" : Str)) = false} {d2 : (b == ("__debug__" : Str)) = false} {e1 : (a == ("__classdict__" : Str)) = false} {e2 : (b == ("__classdict__" : Str)) = false}
    {En : En} {pd dd : PyData} {c : Str} (q1 : En[i1]? = some (.dat pd)) (q2 : En[i2]? = some (.dat dd)) (hm : m [pd, dd] = some (.ex c none)) : Raises (ga X.K c) En (lamOf i1 i2 C hk p p1 p2 p3 scope L h1 h2 v1 v2 hg db d1 d2 e1 e2) := fun ow σ H r E' Q' hE =>
  ⟨out0 ow, dats En, r, _, callX_at (dats_get q1) (dats_get q2) hm, fun ow' H' cls dv s' x => by
    obtain ⟨rfl, rfl⟩ := x
    exact hE H' (ends_same s')⟩
theorem wkS_at {T : Addr} {q : Str} {i j w : Nat} {c : Str} {En : En} {o : Out} (h : wkS T q i j w c En = some o) : ∃ p d, En[i]? = some (.dat p) ∧ En[j]? = some (.dat d) ∧ En[w]? = some (.tab T q) ∧ m_history [p, d] = some (.ex c none) ∧ m_answers [p, d] = some (.ex c none) ∧ m_state_behind [p, d] = some (.ex c none) ∧ o = .nx En := by
  unfold wkS at h
  split at h
  · rename_i p d T' q' h1 h2 h3
    split at h
    · rename_i hc
      obtain ⟨rfl, rfl, m1, m2, m3⟩ := hc
      exact ⟨p, d, h1, h2, h3, m1, m2, m3, (Option.some.inj h).symm⟩
    · cases h
  · cases h
section
variable {P : Program} {w : World} {K : PySem.W.Frag} {mg : Str → Option Value} {base : Heap}
theorem chk4 (T : Tx sx K mg) : ((Fa.exm "BadProgram" "PageError" true).ok K = true ∧ (Fa.exm "BadWord" "PageError" true).ok K = true) ∧ (excB K (ga K "BadProgram") = true ∧ excB K (ga K "BadWord") = true) := by
  obtain ⟨_, h⟩ := ba T.chk
  obtain ⟨_, h⟩ := ba h
  obtain ⟨_, h⟩ := ba h
  obtain ⟨_, h⟩ := ba h
  obtain ⟨_, h⟩ := ba h
  obtain ⟨h1, h⟩ := ba h
  obtain ⟨h2, h⟩ := ba h
  exact ⟨⟨h1, h2⟩, ba h⟩
theorem blk1_walk (T : Tx sx K mg) {c tb : Addr} (TB : LamX.TabB base mg c tb) {A : Around} {outer : List Env} {s : Shared} {H : Hp} {E : XK} (hr : Room 25 (A.deeper (envOfC "law" (defScope slaw) s.heap.objs.size (ga K "law") (.ref c)))) :
    PSs (cxOf (L2.CX P w) P w K mg base N_law "law" (defScope slaw) (ga K "law") (.ref c) A outer s H E) [nth lawLoop 7, nth lawLoop 8, nth lawLoop 9, nth lawLoop 10] (tS K E (wkS tb lawQ 4 10 11 "BadWord")) := by
  refine PSs.impL (t := blkT tb (ga K "BadWord") _ _ _) (pss_cons (ps_set (i := 11) sc_law.nd rfl (Or.inl rfl) (pe_lst (pa_cons (pe_lamD (k := 8) (lamOf 4 10 (c_history T) (by decide) _ _ _ _ _ (LamX.lamS_by (sc := defScope slaw) (by decide +kernel)) rfl rfl (Or.inr (Or.inr rfl)) (Or.inr (Or.inr rfl)) rfl (by decide) (by decide) (by decide) (by decide) (by decide)) TB rfl) pa_nil)))
    (pss_cons (ps_expr (pe_bm PySem.F.plainAttrs_list PySem.F.slot_list_append PySem.F.type_list_append mt_append (pv 11) (pa_cons (pe_lamD (k := 8) (lamOf 4 10 (c_answers T) (by decide) _ _ _ _ _ (LamX.lamS_by (sc := defScope slaw) (by decide +kernel)) rfl rfl (Or.inr (Or.inr rfl)) (Or.inr (Or.inr rfl)) rfl (by decide) (by decide) (by decide) (by decide) (by decide)) TB rfl) pa_nil)))
    (pss_cons (ps_expr (pe_bm PySem.F.plainAttrs_list PySem.F.slot_list_append PySem.F.type_list_append mt_append (pv 11) (pa_cons (pe_lamD (k := 8) (lamOf 4 10 (c_state_behind T) (by decide) _ _ _ _ _ (LamX.lamS_by (sc := defScope slaw) (by decide +kernel)) rfl rfl (Or.inr (Or.inr rfl)) (Or.inr (Or.inr rfl)) rfl (by decide) (by decide) (by decide) (by decide) (by decide)) TB rfl) pa_nil)))
    (pss_one (ps_if (pt_cmpR (op_neD hr.units) (pe_lcN (own := [("_law_work", 12)]) (g := gName 12) rfl sc_law.nd (pi_list (pv 11)) (blkOk_by (N := N_law) (sc := defScope slaw) (by decide +kernel)) (fun _ _ _ _ _ => pg_name (i := 12) sc_law.nd rfl (Or.inl rfl))
      (fun pins s1 σ1 H1 fp I hf C cl => pts_one (pt_not (pt_val (pe_callB (id := "isinstance") (r := rIsE2 K) call_isE2 (by rfl) (T.free "isinstance") (by decide +kernel) (pa_cons (pe_error (k := 8) T I hf (hr.mono (by decide)) (pa_cons (pv 12) pa_nil) rfl) (pa_cons (pe_glob (v := .ref (ga K "BadWord")) rfl (T.glo "BadWord") rfl) pa_nil))))))) (pe_lst pa_nil) (nomark _)) (pss_one (ps_ret pe_bl)) pss_nil))))) ?_
  rintro D σ H0 hlen ⟨ow, En, r, o, ho, post⟩
  obtain ⟨p, d, h1, h2, h3, m1, m2, m3, rfl⟩ := wkS_at ho
  exact blk_read (excB_ok (chk4 T).2.2) (exm_ok (x := "BadWord") (y := "PageError") (b := true) (chk4 T).1.2) r h3 (by rw [hlen]; exact Nat.le_of_ble_eq_true rfl) (raises_of h1 h2 m1) (raises_of h1 h2 m2) (raises_of h1 h2 m3) fun ow' H' σ' r' s' => post ow' H' σ' r' s'
theorem blk2_walk (T : Tx sx K mg) {c tb : Addr} (TB : LamX.TabB base mg c tb) {A : Around} {outer : List Env} {s : Shared} {H : Hp} {E : XK} (hr : Room 25 (A.deeper (envOfC "law" (defScope slaw) s.heap.objs.size (ga K "law") (.ref c)))) :
    PSs (cxOf (L2.CX P w) P w K mg base N_law "law" (defScope slaw) (ga K "law") (.ref c) A outer s H E) [nth lawIf 0, nth lawIf 1, nth lawIf 2, nth lawIf 3] (tS K E (wkS tb lawQ 9 10 11 "BadProgram")) := by
  refine PSs.impL (t := blkT tb (ga K "BadProgram") _ _ _) (pss_cons (ps_set (i := 11) sc_law.nd rfl (Or.inl rfl) (pe_lst (pa_cons (pe_lamD (k := 8) (lamOf 9 10 (c_history T) (by decide) _ _ _ _ _ (LamX.lamS_by (sc := defScope slaw) (by decide +kernel)) rfl rfl (Or.inr (Or.inr rfl)) (Or.inr (Or.inr rfl)) rfl (by decide) (by decide) (by decide) (by decide) (by decide)) TB rfl) pa_nil)))
    (pss_cons (ps_expr (pe_bm PySem.F.plainAttrs_list PySem.F.slot_list_append PySem.F.type_list_append mt_append (pv 11) (pa_cons (pe_lamD (k := 8) (lamOf 9 10 (c_answers T) (by decide) _ _ _ _ _ (LamX.lamS_by (sc := defScope slaw) (by decide +kernel)) rfl rfl (Or.inr (Or.inr rfl)) (Or.inr (Or.inr rfl)) rfl (by decide) (by decide) (by decide) (by decide) (by decide)) TB rfl) pa_nil)))
    (pss_cons (ps_expr (pe_bm PySem.F.plainAttrs_list PySem.F.slot_list_append PySem.F.type_list_append mt_append (pv 11) (pa_cons (pe_lamD (k := 8) (lamOf 9 10 (c_state_behind T) (by decide) _ _ _ _ _ (LamX.lamS_by (sc := defScope slaw) (by decide +kernel)) rfl rfl (Or.inr (Or.inr rfl)) (Or.inr (Or.inr rfl)) rfl (by decide) (by decide) (by decide) (by decide) (by decide)) TB rfl) pa_nil)))
    (pss_one (ps_if (pt_cmpR (op_neD hr.units) (pe_lcN (own := [("_law_work", 12)]) (g := gName 12) rfl sc_law.nd (pi_list (pv 11)) (blkOk_by (N := N_law) (sc := defScope slaw) (by decide +kernel)) (fun _ _ _ _ _ => pg_name (i := 12) sc_law.nd rfl (Or.inl rfl))
      (fun pins s1 σ1 H1 fp I hf C cl => pts_one (pt_not (pt_val (pe_callB (id := "isinstance") (r := rIsE2 K) call_isE2 (by rfl) (T.free "isinstance") (by decide +kernel) (pa_cons (pe_error (k := 8) T I hf (hr.mono (by decide)) (pa_cons (pv 12) pa_nil) rfl) (pa_cons (pe_glob (v := .ref (ga K "BadProgram")) rfl (T.glo "BadProgram") rfl) pa_nil))))))) (pe_lst pa_nil) (nomark _)) (pss_one (ps_ret pe_bl)) pss_nil))))) ?_
  rintro D σ H0 hlen ⟨ow, En, r, o, ho, post⟩
  obtain ⟨p, d, h1, h2, h3, m1, m2, m3, rfl⟩ := wkS_at ho
  exact blk_read (excB_ok (chk4 T).2.1) (exm_ok (x := "BadProgram") (y := "PageError") (b := true) (chk4 T).1.1) r h3 (by rw [hlen]; exact Nat.le_of_ble_eq_true rfl) (raises_of h1 h2 m1) (raises_of h1 h2 m2) (raises_of h1 h2 m3) fun ow' H' σ' r' s' => post ow' H' σ' r' s'
end
end K19

set_option maxHeartbeats 4000000
namespace K19
open PySem PySem.Spec PyProof.Rows L2 He Sa NdefX RZ
section
variable {P : Program} {w : World} {K : PySem.W.Frag} {mg : Str → Option Value} {base : Heap}
theorem k_history (T : Tx sx K mg) : CalK P w K mg base "history" 7 ["program", "word"] ["word", "program"] (fun _ zs => swp zs) (spF K m_history) :=
  (c_history T).key T 15 rfl (fun _ ws => swp ws) (fun _ _ _ _ _ _ ws hl => match ws, hl with | [_, _], _ => rfl) (fun _ r => swp_vals r)
theorem k_answers (T : Tx sx K mg) : CalK P w K mg base "answers" 8 ["program", "word"] ["word", "program"] (fun _ zs => swp zs) (spF K m_answers) :=
  (c_answers T).key T 16 rfl (fun _ ws => swp ws) (fun _ _ _ _ _ _ ws hl => match ws, hl with | [_, _], _ => rfl) (fun _ r => swp_vals r)
theorem k_state_behind (T : Tx sx K mg) : CalK P w K mg base "state_behind" 7 ["program", "word"] ["word", "program"] (fun _ zs => swp zs) (spF K m_state_behind) :=
  (c_state_behind T).key T 17 rfl (fun _ ws => swp ws) (fun _ _ _ _ _ _ ws hl => match ws, hl with | [_, _], _ => rfl) (fun _ r => swp_vals r)
theorem k_is_program (T : Tx sx K mg) : CalK P w K mg base "is_program" 5 ["thing"] ["thing"] (fun _ zs => zs) (spF K m_is_program) :=
  (c_is_program T).key T 12 rfl (fun _ ws => ws) (fun _ _ _ _ _ _ ws hl => match ws, hl with | [_], _ => rfl) (fun _ r => r)
theorem rest_walk (T : Tx sx K mg) {c tb : Addr} (TB : LamX.TabB base mg c tb) {A : Around} {outer : List Env} {s : Shared} {H : Hp} {E : XK} (hr : Room 25 (A.deeper (envOfC "law" (defScope slaw) s.heap.objs.size (ga K "law") (.ref c)))) (hge : (A.deeper (envOfC "law" (defScope slaw) s.heap.objs.size (ga K "law") (.ref c))).guards = some []) :
    PSs (cxOf (L2.CX P w) P w K mg base N_law "law" (defScope slaw) (ga K "law") (.ref c) A outer s H E) (defBody slaw).tail (tS K E (restS tb lawQ)) := by
  have hun := hr.units
  exact (dss_cons (ds_if (dt_not (dt_val (de_callW (c_long_right T) hr (pv 1) da_nil))) (dss_one (ds_ret de_bl)) dss_nil)
    (dss_cons (ds_for (own := [2]) (passes_of rfl) rfl (di_range1 (T.free "range") (da_cons (de_op op_addA addD_ok de_int (de_calB (call_min2 rfl) ii2_ok (da_cons (de_lenV (pv 0) (T.free "len")) (da_cons de_int da_nil)) (T.free "min"))) da_nil)) (dg_name (pg_name (i := 2) sc_law.nd rfl (Or.inl rfl))) (dss_cons (ds_set (i := 3) sc_law.nd rfl (Or.inl rfl) (de_callW (c_house T) hr (pv 1) da_nil))
    (dss_cons (ds_set (i := 4) sc_law.nd rfl (Or.inr rfl) (de_callW (c_program T) hr (pv 1) (da_cons (de_var (pv 3)) (da_cons de_int da_nil))))
    (dss_cons (ds_for (own := [5]) (passes_of rfl) rfl (di_range1 (T.free "range") (da_cons de_int da_nil)) (dg_name (pg_name (i := 5) sc_law.nd rfl (Or.inl rfl))) (dss_cons (ds_set (i := 6) sc_law.nd rfl (Or.inl rfl) (de_callW (c_word T) hr (pv 1) (da_cons (de_var (pv 3)) (da_cons de_int da_nil))))
    (dss_cons (ds_set (i := 7) sc_law.nd rfl (Or.inl rfl) (de_call (c_answered T) hr (da_cons (de_var (pv 4)) (da_cons (de_var (pv 6)) da_nil))))
    (dss_cons (ds_if (PW.pt (dt_or (dt_cmp op_ne neS_ok (de_calB (call_reprA T.sys hge hun) reprD_ok (da_cons (de_call (c_history T) hr (da_cons (de_var (pv 4)) (da_cons (de_var (pv 6)) da_nil))) da_nil) (T.free "repr")) (de_calB (call_reprA T.sys hge hun) reprD_ok (da_cons (de_var (pv 7)) da_nil) (T.free "repr")) (nomark _)) (pw_or1 (dt_cmp op_ne neS_ok (de_calB (call_reprA T.sys hge hun) reprD_ok (da_cons (de_call (c_answers T) hr (da_cons (de_var (pv 4)) (da_cons (de_var (pv 6)) da_nil))) da_nil) (T.free "repr")) (de_calB (call_reprA T.sys hge hun) reprD_ok (da_cons (de_qT call_tupleF tupQ_ok (dq_f (df_lc (W' := E0) (own := [("_law_step", 8)]) rfl sc_law.nd (di_e (de_var (pv 7))) (blkOk_by (N := N_law) (sc := defScope slaw) (by decide +kernel)) (fun _ _ _ _ _ => (dg_name (pg_name (i := 8) sc_law.nd rfl (Or.inl rfl)))) (fun _ _ _ _ _ => dts_nil) (fun _ _ _ _ _ => (de_ixV (pv 8) de_int (fun _ _ => rfl))))) (T.free "tuple")) da_nil) (T.free "repr")) (nomark _))))) (dss_one (ds_ret de_bl)) dss_nil)
    (dss_one (ds_if (dt_cmp op_ne neS_ok (de_calB (call_reprA T.sys hge hun) reprD_ok (da_cons (de_call (c_state_behind T) hr (da_cons (de_var (pv 4)) (da_cons (de_var (pv 6)) da_nil))) da_nil) (T.free "repr")) (de_calB (call_reprA T.sys hge hun) reprD_ok (da_cons (de_call (c_state T) hr (da_cons (de_var (pv 4)) (da_cons (de_var (pv 6)) da_nil))) da_nil) (T.free "repr")) (nomark _)) (dss_one (ds_ret de_bl)) dss_nil))))))
    (dss_cons (ds_if (PW.pt (dt_or (dt_cmp (op_neD hr.units) neD_ok (de_callS (k_history T) (fun _ _ h => fnD_len h) hr (dk_cons (de_var (pv 6)) (dk_cons (de_var (pv 4)) dk_nil))) (de_var (pv 7)) (nomark _)) (pw_or1 (dt_cmp (op_neD hr.units) neD_ok (de_callS (k_answers T) (fun _ _ h => fnD_len h) hr (dk_cons (de_var (pv 6)) (dk_cons (de_var (pv 4)) dk_nil))) (de_qT call_tupleF tupQ_ok (dq_f (df_lc (W' := E0) (own := [("_law_step", 8)]) rfl sc_law.nd (di_e (de_var (pv 7))) (blkOk_by (N := N_law) (sc := defScope slaw) (by decide +kernel)) (fun _ _ _ _ _ => (dg_name (pg_name (i := 8) sc_law.nd rfl (Or.inl rfl)))) (fun _ _ _ _ _ => dts_nil) (fun _ _ _ _ _ => (de_ixV (pv 8) de_int (fun _ _ => rfl))))) (T.free "tuple")) (nomark _))))) (dss_one (ds_ret de_bl)) dss_nil)
    (dss_cons (ds_if (PW.pt (dt_or (dt_cmp (op_neD hr.units) neD_ok (de_callS (k_state_behind T) (fun _ _ h => fnD_len h) hr (dk_cons (de_var (pv 6)) (dk_cons (de_var (pv 4)) dk_nil))) (de_call (c_state T) hr (da_cons (de_var (pv 4)) (da_cons (de_var (pv 6)) da_nil))) (nomark _)) (pw_or1 (dt_cmp op_isnotA isnotE_ok (de_call (c_is_program T) hr (da_cons (de_var (pv 4)) da_nil)) de_bl (nomark _))))) (dss_one (ds_ret de_bl)) dss_nil)
    (dss_cons (ds_for (own := [5]) (passes_of rfl) rfl (di_range1 (T.free "range") (da_cons de_int da_nil)) (dg_name (pg_name (i := 5) sc_law.nd rfl (Or.inl rfl))) (dss_cons (ds_set (i := 9) sc_law.nd rfl (Or.inr rfl) (de_callW (c_bent T) hr (pv 1) (da_cons (de_if (dt_cmp op_gtA ordD_ok (de_callW (c_take T) hr (pv 1) (da_cons de_int da_nil)) de_int (nomark _)) (de_var (pv 4)) (de_callW (c_bent T) hr (pv 1) (da_cons (de_var (pv 4)) (da_cons (de_frz (df_lst da_nil)) da_nil)))) (da_cons (de_call (c_all_names T) hr (da_cons (de_var (pv 3)) da_nil)) da_nil))))
    (dss_one (ds_if (PW.pt (dt_or (dt_cmp (op_neD hr.units) neD_ok (de_call (c_is_program T) hr (da_cons (de_var (pv 9)) da_nil)) (de_call (c_l_is_program T) hr (da_cons (de_var (pv 9)) da_nil)) (nomark _)) (pw_or1 (dt_cmp (op_neD hr.units) neD_ok (de_callK (k_is_program T) (fun _ _ h => fnD_len h) hr (dk_cons (de_var (pv 9)) dk_nil)) (de_call (c_l_is_program T) hr (da_cons (de_var (pv 9)) da_nil)) (nomark _))))) (dss_one (ds_ret de_bl)) dss_nil))))
    (dss_cons (ds_set (i := 10) sc_law.nd rfl (Or.inr rfl) (de_callW (c_bad_word T) hr (pv 1) (da_cons (de_var (pv 3)) (da_cons (de_var (pv 6)) da_nil))))
    (dss_app4 (blk1_walk T TB hr) (dss_one (ds_if (dt_not (dt_val (de_call (c_l_is_program T) hr (da_cons (de_var (pv 9)) da_nil)))) (dss_app4 (blk2_walk T TB hr) dss_nil) dss_nil)))))))))))
    (dss_one (ds_ret de_bl))))
end
end K19

set_option maxHeartbeats 4000000
/-! The law's call where the law makes functions: its table is empty at first, and may be longer at the end; no guard of repr is held. -/
namespace Sa
open PySem PySem.Spec PyProof.Rows L2
/-- what is tracked at the law's call: its table, and the script where K does not tell it -/
def Hs (K : PySem.W.Frag) (P a : Addr) (vs : List Value) (xs : List V) : Hp := fun b => if b = P then some (.tbl #[]) else if b = a ∧ K.lookup a = none then some (.frz { cls := .type "list", data := .seq vs.toArray } (.lst xs)) else none
section
variable {K : PySem.W.Frag} {P a b : Addr} {vs : List Value} {xs : List V}
theorem Hs_P : Hs K P a vs xs P = some (.tbl #[]) := if_pos rfl
theorem Hs_a (h : a ≠ P) (n : K.lookup a = none) : Hs K P a vs xs a = some (.frz { cls := .type "list", data := .seq vs.toArray } (.lst xs)) := (if_neg h).trans (if_pos ⟨rfl, n⟩)
theorem Hs_some {u : HO} (h : Hs K P a vs xs b = some u) : (b = P ∧ u = .tbl #[]) ∨ (b = a ∧ K.lookup a = none ∧ u = .frz { cls := .type "list", data := .seq vs.toArray } (.lst xs)) := by
  unfold Hs at h
  by_cases e : b = P
  · rw [if_pos e] at h
    exact .inl ⟨e, (Option.some.inj h).symm⟩
  · rw [if_neg e] at h
    by_cases e2 : b = a ∧ K.lookup a = none
    · rw [if_pos e2] at h
      exact .inr ⟨e2.1, e2.2, (Option.some.inj h).symm⟩
    · rw [if_neg e2] at h
      cases h
end
theorem law_callTG {Pr : Program} {w : World} {K : PySem.W.Frag} {mg mb : Str → Option Value} {CX : CXT} {k : Nat} {fa a c P : Addr} {fd : FuncData} {x : Str} {sp : Sp} {s : Shared} {vs : List Value} {ns : List Int}
    (KX : K.In s.heap) (hns : s.heap.Ns mainGlobals mg) (hb : s.heap.Ns builtinsNs mb) (hbb : ∀ x : Str, x ≠ "__name__" → mb x = bootBuiltins x) (hlim : s.heap.NoLimit) (hg : s.gens = #[])
    (hP : s.heap.get? P = some { cls := .none, data := .fields #[] }) (nP : K.lookup P = none) (C : PySem.W.codeHdIn K c P = true)
    (hbm : ∃ (bm : Addr) (ob : Obj), mg "__builtins__" = some (.ref bm) ∧ bm ≠ builtinsNs ∧ s.heap.get? bm = some ob ∧ ob.cls = .type "module" ∧ ob.dict = some builtinsNs ∧ ob.data = .plain)
    (ha : s.heap.get? a = some { cls := .type "list", data := .seq vs.toArray }) (hi : IntsAre vs ns) (hl : ns.length ≤ sizeLine) (hr : Room k callerA)
    (F : ∀ base : Heap, K.In base → base.Ns mainGlobals mg → LamX.TabB base mg c P → FnG Pr w K mg base CX k fa fd [x] sp) (hbind : ∀ (s : Shared) (u : Value), BindsTo s fd ⟨[u], []⟩ [(x, u)])
    (hsp : ∀ H : Hp, H P = some (.tbl #[]) → SqL K H a (ns.map V.int) → sp [.ref a] H (fun v _ => v = .bl true) fun _ _ _ => False)
    (hCX : ∀ H e s', CX [] H s (fun _ _ _ => False) e s' → False) :
    codeAny (model Pr w) callerA (.call (.ref fa) ⟨[.ref a], []⟩) (fun r s' => r = .ok (.ret (.bool true)) ∧ OldK s.heap s'.heap ∧ s'.os = s.os ∧ AllBare s'.gens) s := by
  have rv := vals_ints hi
  have lenV := hi.length
  have aP : a ≠ P := fun z => by
    rw [z, hP] at ha
    have z' : Data.fields #[] = Data.seq vs.toArray _ := congrArg Obj.data (Option.some.inj ha)
    cases z'
  have hS : SqL K (Hs K P a vs (ns.map V.int)) a (ns.map V.int) := by
    cases hk : K.lookup a with
    | none => exact .inl (.inr ⟨_, Hs_a aP hk⟩)
    | some o =>
      have e := KX a o hk
      rw [ha] at e
      cases e
      exact .inr ⟨_, vs.toArray, _, hk, rfl, rfl, rfl, by rw [List.size_toArray, lenV]; exact hl, by simpa using rv⟩
  have hok : HOk Pr w (Hs K P a vs (ns.map V.int)) s.heap := fun b u z => by
    rcases Hs_some z with ⟨rfl, rfl⟩ | ⟨rfl, _, rfl⟩
    · exact hP
    · exact ⟨ha, by rw [List.length_map]; exact hl, vs, _, rv, ha⟩
  have only : ∀ {b : Addr}, b ≠ P → b ≠ a → Hs K P a vs (ns.map V.int) b = none := fun {b} h1 h2 => by
    cases q : Hs K P a vs (ns.map V.int) b with
    | none => rfl
    | some u =>
      rcases Hs_some q with ⟨e, _⟩ | ⟨e, _⟩
      · exact absurd e h1
      · exact absurd e h2
  have fixd : ∀ {b : Addr} {u : HO}, Hs K P a vs (ns.map V.int) b = some u → b ≠ P → ∃ o x, u = .frz o x ∧ s.heap.get? b = some o := fun {b u} z n => by
    rcases Hs_some z with ⟨e, _⟩ | ⟨rfl, _, rfl⟩
    · exact absurd e n
    · exact ⟨_, _, rfl, ha⟩
  have inK : ∀ {b : Addr} {o : Obj}, K.lookup b = some o → Hs K P a vs (ns.map V.int) b = none := fun {b o} e => by
    cases q : Hs K P a vs (ns.map V.int) b with
    | none => rfl
    | some u =>
      rcases Hs_some q with ⟨z, _⟩ | ⟨z, n, _⟩
      · rw [z, nP] at e
        cases e
      · rw [z, n] at e
        cases e
  generalize hH : Hs K P a vs (ns.map V.int) = H at *
  have HP : H P = some (.tbl #[]) := by rw [← hH]; exact Hs_P
  -- what is neither the script nor a table stands in the base
  have free : ∀ {b : Addr} {o : Obj}, s.heap.get? b = some o → (∀ vs n, o.data ≠ .seq vs n) → o.data ≠ .fields #[] → H b = none := fun {b o} e h1 h2 => by
    refine only (fun z => ?_) fun z => ?_
    · rw [z, hP] at e
      cases e
      exact h2 rfl
    · rw [z, ha] at e
      cases e
      exact h1 _ _ rfl
  have names : ∀ {b : Addr} {m : Str → Option Value}, s.heap.Ns b m → (hidT s.heap H).Ns b m := fun {b m} ⟨o, es, ep, e, d, r⟩ =>
    ⟨o, es, ep, hidT_get e (free e (fun vs n z => by rw [d] at z; cases z) fun z => by rw [d] at z; cases z), d, r⟩
  have KB : K.In (hidT s.heap H) := fun b o e => hidT_get (KX b o e) (inK e)
  have hM : Mod K mg (hidT s.heap H) := ⟨KB, names hns, ⟨mb, names hb, hbb⟩, let ⟨mc, h1, h2⟩ := hlim; ⟨mc, names h1, h2⟩⟩
  have gP : mainGlobals ≠ P := fun z => by
    obtain ⟨o, es, ep, e, d, _⟩ := hns
    rw [z, hP] at e
    cases e
    cases d
  have TB : LamX.TabB (hidT s.heap H) mg c P := by
    refine NdefX.tabB_of_K KB C ?_ gP
    obtain ⟨bm, ob, b1, b2, b3, b4, b5, b6⟩ := hbm
    refine ⟨bm, ob, b1, b2, fun z => ?_, fun z => ?_, hidT_get b3 (free b3 (fun vs n z => by rw [b6] at z; cases z) fun z => by rw [b6] at z; cases z), b4, b5, b6⟩
    · obtain ⟨o, es, ep, e, d, _⟩ := hns
      rw [z, e] at b3
      cases b3
      rw [d] at b6
      cases b6
    · rw [z, hP] at b3
      cases b3
      cases b6
  have e0 : Env0 Pr w K mg (hidT s.heap H) callerA [] s H := ⟨rfl, hM, fun b o e => of_hidT e, Nat.le_of_eq (hidT_size _ _), trivial, fun b hb => absurd (show b ∈ ([] : List Addr) from hb) (by simp), hok, .of_eq hg⟩
  refine codeAny_mono ((F _ KB (names hns) TB).run callerA [] s H ⟨[.ref a], []⟩ [.ref a] [.ref a] _ _ rfl hr e0 (hbind s (.ref a)) (.cons rfl .nil) (hsp H HP hS)) fun r s' h => ?_
  cases r with
  | error e => exact (hCX H e s' h).elim
  | ok fl =>
    cases fl with
    | next => exact h.elim
    | brk => exact h.elim
    | cont => exact h.elim
    | ret u =>
      obtain ⟨v, H', os, bare, un, hok', r', rfl⟩ := h
      obtain rfl : u = Value.bool true := r'
      have kept : ∀ b o, b ≠ P → s.heap.get? b = some o → s'.heap.get? b = some o := fun b o nb e => by
        cases q : H b with
        | none => exact un.keep b o e q (fun z => by cases z) fun z => by cases z
        | some u =>
          obtain ⟨o', x', rfl, e'⟩ := fixd q nb
          rw [e] at e'
          cases e'
          exact (hok' b _ (un.frzs b _ _ q)).1
      obtain ⟨more, hm⟩ := un.tbls P #[] HP
      have hm : s'.heap.get? P = some { cls := .none, data := .fields (#[] ++ more) } := hok' P _ hm
      rw [Array.empty_append] at hm
      refine ⟨rfl, ⟨fun b o e => ?_, fun b o e => ?_⟩, os, bare⟩
      · by_cases nb : b = P
        · subst nb
          rw [hP] at e
          cases e
          exact .inr (.inl ⟨((PySem.W.codeHd_of_K KX C).tab hP).isCodeTable, rfl, #[], more, rfl, by rw [Array.empty_append]; exact hm⟩)
        · exact .inl (kept b o nb e)
      · by_cases nb : b = P
        · subst nb
          exact ⟨_, hm⟩
        · exact ⟨o, kept b o nb e⟩
/-- the end -/
theorem walk_ofTG {l : PySem.W.OpenLaw} {n k : Nat} {q : Program} {loose : List Str} {XP : (Str → Option Value) → Heap → Prop} {YP : World → Heap → Prop} {d : DefRec} {CX : World → CXT} {x : Str}
    (hn : l.most = some n) (hn2 : n ≤ sizeLine) (hdf : d.params.defaults = []) (hr : Room k callerA)
    (F : ∀ (w : World) (mg : Str → Option Value) (fa : Addr) (h : Heap), YP w h → h.Ns mainGlobals mg → mg d.name = some (.ref fa) →
      ∃ (K : PySem.W.Frag) (fd : FuncData) (c P : Addr) (sp : Sp), K.In h ∧ h.get? P = some { cls := .none, data := .fields #[] } ∧ K.lookup P = none ∧ PySem.W.codeHdIn K c P = true ∧ (∀ (s : Shared) (u : Value), BindsTo s fd ⟨[u], []⟩ [(x, u)]) ∧
        (∀ (H : Hp) (a : Addr) (ns : List Int), ns.length ≤ n → H P = some (.tbl #[]) → SqL K H a (ns.map V.int) → sp [.ref a] H (fun v _ => v = .bl true) fun _ _ _ => False) ∧
        ∀ base : Heap, K.In base → base.Ns mainGlobals mg → LamX.TabB base mg c P → FnG l.prog w K mg base (CX w) k fa fd [x] sp)
    (hCX : ∀ (w : World) (H : Hp) (s : Shared) (e : Value) (s' : Shared), CX w [] H s (fun _ _ _ => False) e s' → False) :
    PySem.W.WalkO q loose XP YP l.row.toRowW d [] (fun f vs => PySem.call f vs) := by
  refine Att.attach_callB hn hdf fun w s₀ s₁ mg mb fa o pm cd doc a vs ns G Y ho hd hcd hmg hobj hints hlen hbits hg => ?_
  obtain ⟨K, fd, c, P, sp, KX, hP, nP, C, hb, hsp, hF⟩ := F w mg fa _ Y G.T.g hmg
  exact law_callTG KX G.T.g G.T.b G.T.builtins G.T.nolimit hg hP nP C G.T.bmain hobj hints (Nat.le_trans hlen hn2) hr hF hb (fun H hH hS => hsp H a ns hlen hH hS) fun H e s' => hCX w H s₁ e s'
end Sa

set_option maxHeartbeats 4000000
namespace K19
open PySem PySem.Spec PyProof.Rows L2 He Sa NdefX RZ
theorem ints_dq {K : PySem.W.Frag} {F : Hp} : ∀ ns : List Int, DqAll K F (ns.map V.int) (ns.map PyData.int)
  | [] => .nil
  | n :: ns => .cons (.int n) (ints_dq ns)
def ow3 (p : DrA) (tb : Addr) : Ow := fun b => if b = tb then some 12 else if b = p.d ∨ b = p.aw ∨ b = p.ac then some 2 else none
theorem seqL_frz {K : PySem.W.Frag} {H F' : Hp} {a tb : Addr} {rows : Array Value} {xs : List V} (ht : H tb = some (.tbl rows)) (f : ∀ b o, b ≠ tb → H b = some o → F' b = some o) (h : SqL K H a xs) : SqL K F' a xs := by
  rcases h with h | h
  · left
    rcases h with h | ⟨q, h⟩
    · exact .inl (f _ _ (fun z => by rw [z, ht] at h; cases h) h)
    · exact .inr ⟨q, f _ _ (fun z => by rw [z, ht] at h; cases h) h⟩
  · exact .inr h
theorem law_start {K : PySem.W.Frag} {H H' : Hp} {a d aw ac tb : Addr} {tq : Str} {ns : List Int} {rows : Array Value} (hS : SqL K H a (ns.map V.int)) (sm : Same H H') (nd : H d = none) (naw : H aw = none) (nac : H ac = none) (ht : H tb = some (.tbl rows)) (hf : TabF (fun b => if b = tb then none else H b) rows tq) (D : Draw H' d aw ac 0) :
    ∃ (p : DrA) (s : DrS) (ow : Ow), Dk 0 s ∧ R K ow [.dat (.list (ns.map .int)), .drw p s, .un, .un, .un, .un, .un, .un, .un, .un, .un, .tab tb tq, .un] [some (.ref a), some (.ref d), none, none, none, none, none, none, none, none, none, none, none] H' := by
  obtain ⟨ne, wide, cells, rest, turn, h1, h2, h3, _, _, h6, h7, h8⟩ := D
  have td : tb ≠ d := ne_of_none ht nd
  have taw : tb ≠ aw := ne_of_none ht naw
  have tac : tb ≠ ac := ne_of_none ht nac
  have o1 : ow3 ⟨d, aw, ac⟩ tb d = some 2 := by
    unfold ow3
    rw [if_neg (Ne.symm td), if_pos (.inl rfl)]
  have o2 : ow3 ⟨d, aw, ac⟩ tb aw = some 2 := by
    unfold ow3
    rw [if_neg (Ne.symm taw), if_pos (.inr (.inl rfl))]
  have o3 : ow3 ⟨d, aw, ac⟩ tb ac = some 2 := by
    unfold ow3
    rw [if_neg (Ne.symm tac), if_pos (.inr (.inr rfl))]
  have o4 : ow3 ⟨d, aw, ac⟩ tb tb = some 12 := if_pos rfl
  refine ⟨⟨d, aw, ac⟩, ⟨wide, cells, rest, turn⟩, ow3 ⟨d, aw, ac⟩ tb, ⟨h6, h7, h8⟩, ?_⟩
  have fz0 : ∀ b o, b ≠ tb → H b = some o → frz (ow3 ⟨d, aw, ac⟩ tb) H' b = some o := fun b o nt hb => by
    have n1 : b ≠ d := ne_of_none hb nd
    have n2 : b ≠ aw := ne_of_none hb naw
    have n3 : b ≠ ac := ne_of_none hb nac
    have e : ow3 ⟨d, aw, ac⟩ tb b = none := by
      unfold ow3
      rw [if_neg nt, if_neg fun z => z.elim n1 fun z => z.elim n2 n3]
    rw [frz_at e]
    exact sm _ _ hb
  refine ⟨fun b hb => ?_, rfl, fun i s o e1 e2 => ?_⟩
  · by_cases qt : b = tb
    · rw [qt, sm _ _ ht]
      simp
    · by_cases q : b = d ∨ b = aw ∨ b = ac
      · rcases q with rfl | rfl | rfl
        · rw [h1]
          simp
        · rw [h2]
          simp
        · rw [h3]
          simp
      · refine absurd ?_ hb
        unfold ow3
        rw [if_neg qt, if_neg q]
  · match i with
    | 0 =>
      cases e1
      cases e2
      exact ⟨_, rfl, .lst (seqL_frz (F' := frz (ow3 ⟨d, aw, ac⟩ tb) H') ht fz0 hS) (ints_dq ns)⟩
    | 1 =>
      cases e1
      cases e2
      exact ⟨rfl, ⟨o1, o2, o3⟩, ne, h1, h2, h3⟩
    | 11 =>
      cases e1
      exact ⟨o4, rows, sm _ _ ht, hf.same fun b o hb => by
        by_cases e : b = tb
        · rw [if_pos e] at hb
          cases hb
        · rw [if_neg e] at hb
          exact fz0 b o e hb⟩
    | 2 | 3 | 4 | 5 | 6 | 7 | 8 | 9 | 10 | 12 =>
      cases e1
      trivial
    | n + 13 => simp at e1
section
variable {P : Program} {w : World} {K : PySem.W.Frag} {mg : Str → Option Value} {base : Heap}
def spLaw (K : PySem.W.Frag) (tb : Addr) (tq : Str) : Sp := fun vs H Q _ => ∃ (a : Addr) (ns : List Int) (rows : Array Value), vs = [.ref a] ∧ SqL K H a (ns.map V.int) ∧ ns.length ≤ 63 ∧ H tb = some (.tbl rows) ∧ TabF (fun b => if b = tb then none else H b) rows tq ∧ ∀ H', Q (.bl true) H'
/-- the law -/
theorem law_Gof {c tb : Addr} {fd : FuncData} (T : Tx sx K mg) (TB : LamX.TabB base mg c tb) (hc : (cT K ("law", none)).1 = c) (F : FunD K "law" "law" (defArgs slaw) (defBody slaw) (defScope slaw) [] [] (ga K "law") fd) :
    FnG P w K mg base (L2.CX P w) 26 (ga K "law") fd ["_law_script"] (spLaw K tb lawQ) := by
  subst hc
  refine funGC F sc_law (fun vs H Q E h => ?_) (fun A outer s H vs Q E hgd hr h => ?_)
  · obtain ⟨a, ns, rows, rfl, _⟩ := h
    rfl
  · obtain ⟨a, ns, rows, rfl, hS, hlen, ht, hf, k⟩ := h
    have hge : (A.deeper (envOfC "law" (defScope slaw) s.heap.objs.size (ga K "law") (.ref (cT K ("law", none)).1))).guards = some [] := guards_deeper hgd _
    refine ⟨_, pss_cons (ps_set (i := 1) sc_law.nd rfl (Or.inl rfl) (pe_cal (c_begun T) hr (pa_cons (pv 0) pa_nil))) (rest_walk T TB hr hge), ?_⟩
    refine ⟨_, rfl, a, ns, rfl, hS, hlen, fun H1 d aw ac sm nd naw nac D => ?_⟩
    obtain ⟨p, s0, ow, hd, hR⟩ := law_start hS sm nd naw nac ht hf D
    obtain ⟨o, ho, E2, rfl⟩ := rest_ok (T := tb) (q := lawQ) (ns := ns.map .int) (p := p) (by simpa using hlen) hd
    refine ⟨ow, _, hR, _, ho, fun ow' H2 σ' v _ _ z => ?_⟩
    cases z
    exact k H2
end
end K19

set_option maxHeartbeats 4000000
namespace Sa
open PySem PySem.Spec PyProof.Rows L2 He
theorem TabF.nil {F : Hp} {q : Str} : TabF F #[] q := ⟨True.intro, fun pos cv h => by
  have z : codeAmong pos [] = some cv := h
  simp [codeAmong] at z⟩
end Sa
namespace K19
open PySem PySem.Spec PyProof.Rows L2 He Sa
theorem facts {P : Program} {w : World} {h : Heap} {mg : Str → Option Value} {f : Addr} (G : h.Ns mainGlobals mg) (hfa : mg ("law" : Str) = some (.ref f)) (Y : (hookTS 4 [("law", none)] sx).says w h) :
    ∃ (K : PySem.W.Frag) (fd : FuncData) (c T : Addr) (sp : Sp), K.In h ∧ h.get? T = some { cls := .none, data := .fields #[] } ∧ K.lookup T = none ∧ PySem.W.codeHdIn K c T = true ∧ (∀ (s : Shared) (u : Value), BindsTo s fd ⟨[u], []⟩ [(("_law_script" : Str), u)]) ∧
      (∀ (H : Hp) (a : Addr) (ns : List Int), ns.length ≤ 63 → H T = some (.tbl #[]) → SqL K H a (ns.map V.int) → sp [.ref a] H (fun v _ => v = .bl true) fun _ _ _ => False) ∧
      ∀ base : Heap, K.In base → base.Ns mainGlobals mg → LamX.TabB base mg c T → FnG P w K mg base (L2.CX P w) 26 f fd ["_law_script"] sp := by
  obtain ⟨K, X, c1⟩ := Y
  have T : Tx sx K mg := ⟨⟨h, X, G⟩, c1.c⟩
  have e := hfa.symm.trans (T.glo "law")
  cases e
  obtain ⟨fd0, F0⟩ := T.def_ 45 (x := "law") (st := slaw) rfl
  have b := FunD.bindsA (ps := ["_law_script"]) F0 fun _ _ _ _ _ _ us hl => match us, hl with | [_], _ => rfl
  have hm : (("law", none) : Defn) ∈ [(("law", none) : Defn)] := List.mem_cons_self
  refine ⟨K, fd0, (cT K ("law", none)).1, (cT K ("law", none)).2, spLaw K (cT K ("law", none)).2 lawQ, X, c1.empty _ hm, c1.out _ hm, c1.hd _ hm, fun s v => b s [v] rfl, fun H a ns hl hT hS => ⟨a, ns, #[], rfl, hS, hl, hT, TabF.nil, fun _ => rfl⟩, fun base _ _ TB => ?_⟩
  exact law_Gof (base := base) T TB rfl F0
end K19
open PySem PySem.W PySem.Calls PyProof.Rows
theorem PySem.Challenge.cw_saidandasked_k19_programs_answer_words_holds : PySem.Challenge.rw_saidandasked_k19_programs_answer_words.Holds := by
  w_on; o_law
  refine HandSHeadRun.head_any (r := K19.Rw) (q := view K19.Rw.prog [K19.lawAt]) (H := Sa.hookTS 4 [("law", none)] K19.sx) (ob := Sa.obTS 4 [("law", none)] K19.sx) (M := 20000) (loose := K19.loose) (d := HandSHeadRun.topDef K19.Rw.prog 55) (kwd := []) (Sa.obTS_eq 4 [("law", none)] K19.sx)
    (by kernel_rfl) (fun s => by kernel_rfl) K19.run (by kernel_rfl) (by kernel_rfl) (by kernel_rfl) (by rfl) (by first | assumption | decide +kernel) (by decide +kernel) ⟨rfl, rfl, rfl, rfl, rfl, by decide +kernel⟩ ?hw ?hc
  case hw => w_witness2
  case hc =>
    refine Sa.walk_ofTG (l := PySem.Challenge.rw_saidandasked_k19_programs_answer_words) (n := 63) (k := 26) (x := "_law_script") (CX := L2.CX (PySem.Challenge.rw_saidandasked_k19_programs_answer_words).prog) rfl (by decide) (by kernel_rfl) ⟨rfl, by decide, by decide⟩ ?F (fun _ _ _ _ _ z => by
      obtain ⟨_, _, _, _, _, _, _, _, _, _, _, _, z⟩ := z
      exact z)
    intro w mg fa h Y G hmg0
    have hmg : mg ("law" : PySem.Str) = some (.ref fa) := by
      have e : (HandSHeadRun.topDef K19.Rw.prog 55).name = ("law" : PySem.Str) := by kernel_rfl
      rw [← e]
      exact hmg0
    exact K19.facts (P := (PySem.Challenge.rw_saidandasked_k19_programs_answer_words).prog) G hmg Y
