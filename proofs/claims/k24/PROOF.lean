import PyProof.Rows.All
import Wide.All
import OpenK.AllK
import Wide.FinOn
import KE.KExcSuper
import KE.RegKSuper
import KE.KExcIs
import HandS.ForMost
import HandS.Exc
import HandS.ExcOwn
import HandS.ExcInit
import HandS.ExcValue
import HandS.ExcIs
import HandS.ExcField
import HandS.ExcSuper
import HandS.Nested
import HandS.Defaults
import HandS.HeadEnd
import HandS.More
import HandS.WordsExc
import HandS.Head0
import HandS.Head1
import HandS.Head2
import HandS.HeadHook1
import HandS.HeadHook2
import HandS.Walk
import HandS.Zip
import HandS.HeadWalk
import PySem.Challenge.RW_saidandasked_k24_errors_made_and_bases
set_option Elab.async false
set_option linter.all false
set_option maxRecDepth 100000
set_option maxHeartbeats 4000000
/-! An own error whose __init__ begins by super().__init__('..') and then stores fields: its __init__ as a def of the layer. -/
namespace Sa
open PySem PySem.Spec PyProof.Rows L2 NdefX
section
variable {prog : Program} {w : World} {A : Around} {E : Value → Shared → Prop} {h : Heap} {g : Array GenState} {d : Drawn} {t : Nat} {os : OsState}
variable {nm q : Str} {C N : Addr} {bs bm : List Value} {hdct : Bool} {sn : List Str} {sub : List Value} {ab : Bool} {col : Option Bool} {dd : Option Addr} {k0 k1 k2 k3 k5 : Option Value}
/-- the bound ValueError.__init__ is called -/
theorem sup_call {u e t0 : Addr} {rest : List Value} {Q : Value → Shared → Prop}
    (hC : h.get? C = some (excClassObj nm q C N bs bm hdct sn sub ab col dd k0 k1 k2 k3 k5 "ValueError.__new__")) (he : h.get? e = some (HandSPX.excO C t0)) (hu : h.get? u = some (PySem.W.kxs_mw "ValueError.__init__" e)) (hrest : rest.length ≤ sizeLine)
    (hq : ∀ h' t1, (∀ b o, b ≠ e → h.get? b = some o → h'.get? b = some o) → h'.get? e = some (HandSPX.excO C t1) → Q .none ⟨h', g, d, t, os⟩) :
    wpAny (model prog w) A (call (.ref u) rest) Q E ⟨h, g, d, t, os⟩ := by
  refine wpAny_call (codeAny_of_tree ?_)
  show wpAny _ A.in1 (callAny (.ref u) ⟨rest, []⟩) _ _ _
  simp only [callAny]
  refine wpAny_bind (wpAny_load hu ?_)
  simp only [PySem.W.kxs_mw, show (Value.type "method-wrapper" == Value.type "method" || Value.type "method-wrapper" == Value.type "builtin_function_or_method" || Value.type "method-wrapper" == Value.type "method-wrapper") = true by decide, if_true]
  refine PySem.W.KFB.if_so (by decide) ?_
  refine wpAny_bind (PySem.ESX.check_bound F.excBase_ValueError hC he rfl ?_)
  refine wpAny_bind (wpAny_pure (wpAny_pure ?_))
  refine ⟨Code.quiet_builtin _ (by decide +kernel), codeAny_builtin F.excBase_ValueError.initEntry ?_⟩
  rw [Around.under_plainId F.excBase_ValueError.init.plain _]
  wp_walk
  refine hq _ h.objs.size (fun b o hb ho => ?_) ?_
  · rw [Heap.get?_update_other _ _ (Ne.symm hb)]
    exact Heap.get?_push_of_some _ ho
  · rw [Heap.get?_update_self _ (Heap.get?_push_of_some _ he) rfl]
    rfl
end
end Sa

set_option maxHeartbeats 4000000
namespace Sa
open PySem PySem.Spec PyProof.Rows L2 NdefX
/-- what the written part says of such a class C and its __init__ at f, the words F -/
structure SupK (P : Program) (K : PySem.W.Frag) (C : Addr) (F : NF) (f : Addr) (fd : FuncData) : Prop where
  oex : OexC K C
  iC : PySem.W.findIn K (.ref C) "__init__" = some (some (.ref f))
  tI : PySem.W.typeIn K (.ref f) = some (.type "function")
  lk : ∃ (oc : Value) (od : Option Addr) (doc pm ctv : Value) (an : Option Addr) (osl : Array (Option Value)), fd = PySem.W.fnX F.name F.qual F.params F.body F.scope F.cl .none .none doc pm an (.ref F.c) ctv ∧ K.lookup f = some ⟨oc, od, .func fd, osl⟩
  cd : PySem.W.codeIn K (.ref F.c) F.qual = true
  file : ∃ (ccl : Value) (cdd : Option Addr) (vs : Array Value) (ccs : Array (Option Value)) (file : Str) (tf : Tok), K.lookup F.c = some ⟨ccl, cdd, .fields vs, ccs⟩ ∧ vs[2]? = some (.str file tf) ∧ ((P.main.file : Str) == file) = true
  cell : ∃ (cc : Addr) (a : Value) (b : Option Addr) (c : Array (Option Value)), F.cl = [(("__class__" : Str), cc)] ∧ K.lookup cc = some ⟨a, b, .cell (some (.ref C)), c⟩
  sup : PySem.W.ks_superIn K C C "__init__" = some (some (.builtin "ValueError.__init__"))
  subVE : PySem.W.subIn K (.ref C) (.type "ValueError") = some true
  self : PySem.W.mroIn K C (.ref C) = some true
  third : PySem.W.nsIn K cStatics "thirdparty.any" = some none
section
variable {P : Program} {w : World} {K : PySem.W.Frag} {mg : Str → Option Value} {base : Heap} {CX : CXT} {N ps : List Str} {F : NF} {fd : FuncData} {f C : Addr} {k : Nat} {sp : Sp}
theorem cellsAt_one {cc : Addr} {h : Heap} {H : Hp} (e : F.cl = [(("__class__" : Str), cc)]) (hc : h.IsCell cc (some (.ref C))) (hn : H cc = none) : CellsAt F.cl ["__class__"] [some (.ref C)] h H := by
  have look : ∀ y c, F.cl.lookup y = some c → y = "__class__" ∧ c = cc := fun y c hl => by
    rw [e] at hl
    have hm := PySem.mem_of_lookup hl
    have hm2 := List.mem_singleton.mp hm
    exact ⟨congrArg Prod.fst hm2, congrArg Prod.snd hm2⟩
  refine ⟨rfl, fun y c hl => ?_, fun x y c hx hy => ?_, fun i y hi => ?_⟩
  · obtain ⟨_, rfl⟩ := look y c hl
    exact ⟨hn, _, hc⟩
  · rw [(look x c hx).1, (look y c hy).1]
  · cases i with
    | zero =>
      have ey : ("__class__" : Str) = y := Option.some.inj hi
      subst ey
      refine ⟨cc, by rw [e]; simp, fun v hv => ?_⟩
      have ev : some (V.ref C) = some v := Option.some.inj hv
      cases ev
      exact ⟨.ref C, rfl, hc⟩
    | succ i => simp at hi
/-- THE RULE: its __init__ by the rest of its body -/
theorem fn_super (S : NScope N ps ["__class__"] F.scope) (T : SupK P K C F f fd) (hs : mg "super" = none)
    (hks : F.scope.names.lookup ("super" : Str) = some .globalImplicit) (htop : (P.main.scope.names.lookup ("super" : Str)).isSome = false)
    {ar : Arg} (har : (F.params.posonlyargs ++ F.params.args).head? = some ar) (har2 : ps[0]? = some ar.arg) (len : ∀ vs H Q E, sp vs H Q E → vs.length = ps.length)
    {p0 p1 p2 p3 p4 p5 : Pos} {m : Str} {j : Nat} {rest : List Stmt} (hbody : F.body = .Expr (.Call (.Attribute (.Call (.Name "super" p0) [] [] p1) "__init__" p2) [.Constant (.str m) j p3] [] p4) p5 :: rest)
    (he : ∀ L : Addr, ∃ pl : Sem Bool, eval (.Call (.Attribute (.Call (.Name "super" p0) [] [] p1) "__init__" p2) [.Constant (.str m) j p3] [] p4) (envF F f L) = (do
      let ov ← attributeBase (.Call (.Name "super" p0) [] [] p1) "__init__" (envF F f L) (eval (.Call (.Name "super" p0) [] [] p1) (envF F f L))
      standAt p2.atName
      let (fx, first) ← holding [ov] (getMethod ov "__init__" pl)
      callWith p4 fx first (backTo p4 (starEach [.Constant (.str m) j p3] (envF F f L))) []))
    (hi : ∀ L : Addr, interactive (envF F f L) = false) (hsw : ∀ L : Addr, swapsWith (.Call (.Attribute (.Call (.Name "super" p0) [] [] p1) "__init__" p2) [.Constant (.str m) j p3] [] p4) none p5.line (envF F f L) = pure false)
    (hself : ∀ vs H Q E, sp vs H Q E → ∃ a ys, vs = V.ref a :: ys ∧ H a = some (exo a C none))
    (hrest : ∀ (A : Around) (outer : List Env) (s : Shared) (H : Hp) (vs : List V) (Q : VK) (E : XK), Room k (A.deeper (envF F f s.heap.objs.size)) → sp vs H Q E →
      ∃ t, PSs (ncx CX P w K mg base N F f A outer s H E) rest t ∧ t { nx := fun _ H' => Q .non H', rt := Q } (startF N vs [some (.ref C)]) H) :
    FnOk P w K mg base CX (k + 1) f fd ps sp := by
  refine ⟨len, fun A outer s H args us vs Q E hr e0 hb r hsp => ?_⟩
  obtain ⟨oc, od, doc, pm, ctv, an, osl, rfl, lk⟩ := T.lk
  have hl := len _ _ _ _ hsp
  have KX : K.In s.heap := e0.mod.kin.keeps fun b o e => (e0.bs b o e).1
  have lim : s.heap.NoLimit := e0.mod.nolimit.keeps fun b o e => (e0.bs b o e).1
  obtain ⟨cc, ca, cb, csl, hcl, hcell⟩ := T.cell
  have hcn : H cc = none := (e0.bs cc _ (e0.mod.kin _ _ hcell)).2
  have hC : CellsAt F.cl ["__class__"] [some (.ref C)] s.heap H := cellsAt_one hcl ⟨_, KX _ _ hcell, rfl⟩ hcn
  refine PySem.ks_codeAny_call_defAt (body := F.body) (binds := ps.zip us) hr.depth (KX _ _ lk) rfl lim (PySem.W.codeRec_of KX T.cd) rfl hb S.nocell (fun y hy => S.par _ (List.of_mem_zip hy).1) (fun h₁ hns kp => ?_) S.co S.gen S.kind
  have I : Inv (ncx CX P w K mg base N F f A outer s H E) [] (startF N vs [some (.ref C)]) H { s with heap := h₁, toks := s.toks + (ps.zip us).length } := inv_startN S hr.hd e0 hl r hC hns kp
  obtain ⟨t, ht, hq⟩ := hrest A outer s H vs Q E (hr.deeper _) hsp
  obtain ⟨a, ys, rfl, ea⟩ := hself _ _ _ _ hsp
  have tail : ∀ s', Inv (ncx CX P w K mg base N F f A outer s H E) [] (startF N (.ref a :: ys) [some (.ref C)]) H s' → wpAny (model P w) (A.deeper (envF F f s.heap.objs.size)) (execs rest (envF F f s.heap.objs.size))
      (fun fl s' => CR CX outer P w H s Q E (.ok (.ret (match fl with | .ret v => v | _ => .none))) s') (ncx CX P w K mg base N F f A outer s H E).xe s' := fun s' J => by
    refine wpAny_mono (ht.run [] s' _ H _ J hq) (fun fl s2 hs2 => ?_) fun e s2 hs2 => hs2
    have fin : ∀ {σ' : L2.St} {H' : Hp} {v : V} {u : Value}, Inv (ncx CX P w K mg base N F f A outer s H E) [] σ' H' s2 → L2.RelV v u → Q v H' → CE outer P w H s Q u s2 :=
      fun {σ' H' v u} J rv q => ⟨v, H', J.os, J.bare, J.base, J.hok, rv, q⟩
    cases fl with
    | ret u =>
      obtain ⟨v, σ', H', J, rv, q⟩ := hs2
      exact fin J rv q
    | next =>
      obtain ⟨σ', H', J, q⟩ := hs2
      exact fin (v := V.non) (u := Value.none) J rfl q
    | brk =>
      obtain ⟨_, _, _, q⟩ := hs2
      exact False.elim q
    | cont =>
      obtain ⟨_, _, _, q⟩ := hs2
      exact False.elim q
  have hkc : F.scope.names.lookup ("__class__" : Str) = some .free := S.frk _ (List.mem_singleton.mpr rfl)
  have hka : F.scope.names.lookup ar.arg = some .local := S.par _ (List.mem_of_getElem? har2)
  have hpl : ps.length + 1 ≤ N.length := by
    have q := congrArg List.length S.pre
    rw [List.length_take, List.length_append] at q
    have q2 : (["__class__"] : List Str).length = 1 := rfl
    omega
  have ndP : ps.Nodup := by
    have q := S.nd.sublist (List.take_sublist (ps.length + (["__class__"] : List Str).length) N)
    rw [S.pre] at q
    exact (List.nodup_append.mp q).1
  obtain ⟨ua, us', rfl, rfl⟩ : ∃ ua us', us = ua :: us' ∧ ua = Value.ref a := by
    cases r with
    | cons r0 r1 => exact ⟨_, _, rfl, r0⟩
  have hv : (ps.zip (Value.ref a :: us')).reverse.lookup ar.arg = some (Value.ref a) := zip_look (i := 0) ndP har2 rfl
  obtain ⟨ccl, cdd, fvs, ccs, file, tf, hcode, hvs, hfile⟩ := T.file
  have kin1 : K.In h₁ := fun b o e => kp b o (KX b o e)
  obtain ⟨nmC, qC, NC, bsC, bmC, snC, subC, abC, colC, ddC, k0, k1, k2, k3, k5, hCl, hbm⟩ := T.oex.cls
  have hcls : PySem.W.clsIn K C = some { name := nmC, bases := bsC, mro := .ref C :: bmC, ns := NC, qualname := qC, hasDict := true, slotNames := snC, subclasses := subC, abstract := abC, collection := colC, hasDel := false } := by unfold PySem.W.clsIn; rw [hCl] <;> rfl
  obtain ⟨t1, ho⟩ := exo_at I.hok ea
  obtain ⟨mb, hb1, hb2⟩ := e0.mod.blt
  have gN : h₁.Ns mainGlobals mg := e0.mod.glob.keeps I.bk
  have eb : execs F.body (envF F f s.heap.objs.size) = execs (.Expr (.Call (.Attribute (.Call (.Name "super" p0) [] [] p1) "__init__" p2) [.Constant (.str m) j p3] [] p4) p5 :: rest) (envF F f s.heap.objs.size) := by rw [hbody]
  show PySem.wpAt (model P w) (A.deeper (envF F f s.heap.objs.size)) (.func F.body (envF F f s.heap.objs.size)) (execs F.body (envF F f s.heap.objs.size)) _ _ _
  rw [eb]
  obtain ⟨pl, hev⟩ := he s.heap.objs.size
  refine PySem.ks_wpAt_execs_cons (PySem.ks_wpAt_Expr_any (PySem.ks_wpAt_MethodCall (pl := pl) ?_ hev) (hi _) (hsw _))
  refine PySem.ks_wpAt_super_base (env := envF F f s.heap.objs.size) hks hkc (by decide) rfl (kin1 _ _ lk) rfl har rfl (kin1 _ _ hcode) rfl hvs hfile htop ?_
  refine PySem.W.ks_loadName_global S.kind hks (Calls.loadGlobal_builtin (env := envF F f s.heap.objs.size) gN hs (hb1.keeps I.bk) ((hb2 _ (by decide)).trans PyProof.Rows.Boot.«super») ⟨rfl, ?_⟩)
  refine wpAny_loadName_free S.kind hkc (show F.cl.lookup ("__class__" : Str) = some cc by rw [hcl]; simp) ⟨_, kin1 _ _ hcell, rfl⟩ ?_
  refine wpAny_loadName_local S.kind hka hns hv ?_
  refine PySem.ks_wpAny_isType_cls (kin1 _ _ hCl) rfl ⟨rfl, ?_⟩
  refine PySem.ks_wpAny_call_super (kin1 _ _ hCl) rfl ho rfl (fun c z => nomatch z) (PySem.W.looks_mroIn kin1 T.self) (fun h2 e2 k2 => ?_)
  have I2 := I.kept (t' := s.toks + (ps.zip (Value.ref a :: us')).length) k2
  have kin2 : K.In h2 := fun b o e => k2 b o (kin1 b o e)
  obtain ⟨t2, ho2⟩ := exo_at I2.hok ea
  have J2 : PySem.W.InstAt h2 a { cls := .ref C, dict := none, data := .fields #[.ref t2, .none, .none, .none, .bool false, .none] } C none := ⟨ho2, rfl, rfl, trivial⟩
  refine PySem.W.kxs_getMethod PySem.W.kxs_ValueError e2 (PySem.W.looks_opaque kin2 T.third) (l₀ := .ref C :: bmC) (fun A Q E s k q => wpAny_bind ((PySem.W.looks_clsIn kin2 hcls) A _ E s k (wpAny_pure q))) rfl kin2 ?_
    (J2.type.andThen (PySem.W.looks_subIn kin2 T.subVE)) (PySem.W.ks_ne kin2 J2 hcls) (by decide) ?_
  · have z := T.sup
    unfold PySem.W.ks_superIn at z
    rw [hcls] at z
    exact z
  have I3 := I2.kept (h' := h2.push (PySem.W.kxs_mw "ValueError.__init__" a)) (t' := s.toks + (ps.zip (Value.ref a :: us')).length + 1) (fun b o e => Heap.get?_push_of_some _ e)
  have hmw : (h2.push (PySem.W.kxs_mw "ValueError.__init__" a)).get? h2.objs.size = some (PySem.W.kxs_mw "ValueError.__init__" a) := Heap.get?_push_size h2 rfl
  obtain ⟨t3, ho3⟩ := exo_at I3.hok ea
  have hargs : starEach [.Constant (.str m) j p3] (envF F f s.heap.objs.size) = (false, eval (.Constant (.str m) j p3) (envF F f s.heap.objs.size)) :: starEach [] (envF F f s.heap.objs.size) := rfl
  rw [hargs]
  refine PySem.W.kxs_callWith (i := "ValueError.__init__") (x := a) rfl (Calls.evalArgs_plain ?_)
  show wpAny _ _ (spliced [(false, eval (.Constant (.str m) j p3) (envF F f s.heap.objs.size))]) _ _ _
  refine Calls.spliced_cons (Calls.Constant_str (pos := p3) (k := j) ?_)
  refine Calls.spliced_nil ⟨hmw, ?_⟩
  show wpAny (model P w) _ (call (.ref h2.objs.size) [_]) _ _ _
  have kin3 : K.In (h2.push (PySem.W.kxs_mw "ValueError.__init__" a)) := fun b o e => Heap.get?_push_of_some _ (kin2 b o e)
  refine sup_call (kin3 _ _ hCl) ho3 hmw (by show 1 ≤ sizeLine; rw [sizeLine_eq]; omega) (fun h' t4 k4 e4 => ?_)
  have I4 := I3.write (h' := h') (t' := s.toks + (ps.zip (Value.ref a :: us')).length + 1 + 1) (x := a) (e := a) (o := exo a C none) (by rw [ea]; exact True.intro) (.inl rfl) k4 ⟨_, e4⟩ (exo_ok e4)
  have eu : upd H a (exo a C none) = H := by
    funext b
    by_cases hb : b = a
    · rw [hb, upd_same, ea]
    · rw [upd_ne hb]
  rw [eu] at I4
  exact wpAt_of_wpAny (tail _ I4)
end
end Sa

set_option maxHeartbeats 4000000
namespace Sa
open PySem PySem.Spec PyProof.Rows L2 NdefX
/-- C(e, ..) as a value: a new error of the class C, then its __init__ -/
def tNewO (C : Addr) (sp : Sp) (ta : TA) : TE := fun σ H Q => ta σ H fun vs H1 => vs.length ≤ 1000 ∧ ∀ a, H1 a = none → sp (.ref a :: vs) (upd H1 a (exo a C none)) (fun v H2 => v = .non ∧ Q (.ref a) H2) (fun _ _ _ => False)
section
variable {X : Cx} {e : Expr} {es : List Expr} {ta : TA} {p pos : Pos}
theorem pe_oex {CX : CXT} {x : Str} {C fI : Addr} {k : Nat} {fd : FuncData} {ps : List Str} {sp : Sp} (T : OexC X.K C) (iC : PySem.W.findIn X.K (.ref C) "__init__" = some (some (.ref fI))) (tI : PySem.W.typeIn X.K (.ref fI) = some (.type "function"))
    (F1 : FnOk X.prog X.w X.K X.mg X.base CX k fI fd ps sp) (hr : Room (k + 1) X.A) (hb : Binds X.K fd ps []) (hx : Passes CX X (fun _ _ _ => False)) (hg : Gl X x) (hm : X.mg x = some (.ref C)) (ha : PA X (e :: es) ta)
    (hdb : (x == ("__debug__" : Str)) = false := by decide) (he : starEach (e :: es) X.env = (false, eval e X.env) :: starEach es X.env := by rfl) (hpl : (backTo pos (starEach es X.env)).any (·.1) = false := by rfl) :
    PE X (.Call (.Name x p) (e :: es) [] pos) (tNewO C sp ta) := by
  refine ⟨fun pins s σ H Q I h => ?_⟩
  obtain ⟨nm, q, N, bs, bm, sn, sub, ab, col, dd, k0, k1, k2, k3, k5, hC, hbm⟩ := T.cls
  refine wpAny_Call_Name_kw (ld_glob I hg hm ?_ hdb)
  refine PySem.W.callWith_K (h₀ := X.base) I.ok.mod.kin T.kC (thn (ha.run pos pins s σ H _ I h) fun us s1 ⟨vs, H1, I1, r1, hz, q1⟩ => ⟨I1.kIn, ?_⟩) he hpl
  show wpAny _ _ (call (.ref C) us) _ _ _
  obtain ⟨hp, g, dr, tk, os⟩ := s1
  have hsz : hp.objs.size ≤ hp.objs.size + 1 := Nat.le_succ _
  have hn : H1 (hp.objs.size + 1) = none := I1.hok.fresh hsz
  have hq := q1 (hp.objs.size + 1) hn
  have kk : ∀ b o, hp.get? b = some o → ((hp.push (PySem.W.kdv_tup us)).push (PySem.HandSPX.excO C hp.objs.size)).get? b = some o := fun b o e => Heap.get?_push_of_some _ (Heap.get?_push_of_some _ e)
  have hget : ((hp.push (PySem.W.kdv_tup us)).push (PySem.HandSPX.excO C hp.objs.size)).get? (hp.objs.size + 1) = some (PySem.HandSPX.excO C hp.objs.size) := by heap_get
  have I2 : Inv X pins σ (upd H1 (hp.objs.size + 1) (exo (hp.objs.size + 1) C none)) ⟨(hp.push (PySem.W.kdv_tup us)).push (PySem.HandSPX.excO C hp.objs.size), g, dr, tk, os⟩ :=
    I1.laid (t' := tk) (a := hp.objs.size + 1) (o := exo (hp.objs.size + 1) C none) (h' := (hp.push (PySem.W.kdv_tup us)).push (PySem.HandSPX.excO C hp.objs.size)) kk hsz (exo_ok hget)
  have r2 : Vals (V.ref (hp.objs.size + 1) :: vs) (Value.ref (hp.objs.size + 1) :: us) := .cons rfl r1
  have hl : (Value.ref (hp.objs.size + 1) :: us).length = ps.length := by
    have e := r2.length
    rw [F1.len _ _ _ _ hq] at e
    exact e.symm
  have hus : us.length ≤ sizeLine := by
    rw [← Paired.length r1, sizeLine_eq]
    omega
  have hb2 := hb ⟨(hp.push (PySem.W.kdv_tup us)).push (PySem.HandSPX.excO C hp.objs.size), g, dr, tk, os⟩ (Value.ref (hp.objs.size + 1) :: us) I2.kIn (by rw [List.append_nil]; exact hl)
  rw [List.append_nil] at hb2
  refine wpAny_call (PySem.HandSPX.call_own F.excBase_ValueError (fun Y => PySem.HandSPX.refsVE_contains Y bm hbm) (I1.kIn _ _ hC) (PySem.W.looks_findIn I1.kIn iC) (fun self => PySem.W.bind_fn I1.kIn self tI) hus
    (codeAny_mono (F1.run _ X.stack _ _ ⟨Value.ref (hp.objs.size + 1) :: us, []⟩ (Value.ref (hp.objs.size + 1) :: us) _ _ (fun _ _ _ => False) (hr.make C us []) (I2.env0.make C us []) hb2 r2 hq) fun r s' hq' => ?_))
  cases r with
  | error er => exact hx pins σ _ _ er s' I2 hq'
  | ok fl =>
    cases fl with
    | ret u =>
      obtain ⟨v, H3, J, rv, ev, q3⟩ := I2.after hq'
      subst ev
      exact ⟨rv, .ref (hp.objs.size + 1), H3, J, rfl, q3⟩
    | next => exact False.elim hq'
    | brk => exact False.elim hq'
    | cont => exact False.elim hq'
end
/-! ### what an error says -/
/-- an error of the class C stands at a, tracked: with no dict that is told, or with the fields fs -/
inductive ErrAt (H : Hp) (a C : Addr) : Prop where
  | plain (h : H a = some (ExO (.ref C) a))
  | full {dx : Addr} {fs : List (Str × V)} (h : H a = some (exo a C (some dx))) (hd : H dx = some (exd dx fs))
section
variable {X : Cx} {pins : List (Addr × Obj)} {σ : L2.St} {H : Hp} {s : Shared} {a C dx : Addr} {fs : List (Str × V)}
theorem ErrAt.inst (I : Inv X pins σ H s) (e : ErrAt H a C) : ∃ ox od, PySem.W.InstAt s.heap a ox C od := by
  cases e with
  | plain h =>
    obtain ⟨⟨oe, vs, he, hz, hd, _⟩, _, _⟩ := I.hok a _ h
    refine ⟨oe, none, he, hz.1, by unfold PySem.W.notCls; rw [hd] <;> rfl, ?_⟩
    rw [hz.2] <;> trivial
  | full h hd =>
    obtain ⟨t1, he⟩ := exo_at I.hok h
    obtain ⟨mA, ⟨od, es, ep, ho, hr⟩, _⟩ := exd_at I.hok hd
    exact ⟨_, some od, he, rfl, rfl, ho⟩
/-- isinstance(x, c), x an error -/
def rIsX (K : PySem.W.Frag) : List V → Hp → VK → Prop := fun xs H Q => ∃ (a C : Addr) (c : V) (cv : Value) (b : Bool), xs = [.ref a, c] ∧ ErrAt H a C ∧ ExcC K C ∧ (∀ u, RelV c u → u = cv) ∧ PySem.W.kitOne K (.ref C) cv = some b ∧ Q (.bl b) H
theorem call_isX : CallR X (.builtin "isinstance") (rIsX X.K) := by
  intro pins s σ H xs us Q I r h
  obtain ⟨a, C, c, cv, b, rfl, ea, T, hcv, e, q⟩ := h
  cases r with
  | cons rx rr =>
    cases rr with
    | cons rt rr =>
      cases rr
      cases rx
      have ec := hcv _ rt
      subst ec
      obtain ⟨ox, od, J⟩ := ea.inst I
      have hcl : (PySem.W.clsIn X.K C).isSome = true := by
        obtain ⟨cd, hc, _⟩ := PySem.W.any_some T.hd
        rw [hc] <;> rfl
      exact PySem.W.kia_one (PySem.W.kitx_exc (ox := ox) (od := od) hcl T.hg T.hk T.hs T.ha T.hn T.ht T.hm) I.kIn J e (fun z => nomatch z) fun tk => ⟨.bl b, H, I.kept (t' := tk) fun _ _ z => z, rfl, q⟩
end
/-- x.f, x an error with its fields told -/
def tXat (K : PySem.W.Frag) (f : Str) (te : TE) : TE := fun σ H Q => te σ H fun x H1 => ∃ (a C dx : Addr) (fs : List (Str × V)) (v : V), x = .ref a ∧ H1 a = some (exo a C (some dx)) ∧ H1 dx = some (exd dx fs) ∧ XfC K C ∧ PySem.W.findIn K (.ref C) f = some none ∧ fs.lookup f = some v ∧ Q v H1
theorem pe_xat {X : Cx} {e : Expr} {te : TE} {pos : Pos} {f : Str} (he : PE X e te) (hb : attributeBase e f X.env (eval e X.env) = eval e X.env := by rfl) : PE X (.Attribute e f pos) (tXat X.K f te) := by
  refine ⟨fun pins s σ H Q I h => ?_⟩
  refine attr_of hb (thn (he.run pins s σ H _ I h) fun u s1 hh => ?_)
  obtain ⟨x, H1, I1, rx, a, C, dx, fs, v, ex, ea, ed, T, hno, l, q⟩ := hh
  subst ex
  obtain rfl : u = Value.ref a := rx
  obtain ⟨t1, ho⟩ := exo_at I1.hok ea
  obtain ⟨mA, hns, hr⟩ := exd_at I1.hok ed
  obtain ⟨od, hod, hl⟩ := lookIn_ns hns
  obtain ⟨u, hu, ru⟩ := RelO.some_of (v := v) (o := mA f) (by rw [← l]; exact hr f)
  have J : PySem.W.InstAt s1.heap a { cls := .ref C, dict := some dx, data := .fields #[.ref t1, .none, .none, .none, .bool false, .none] } C (some od) := ⟨ho, rfl, rfl, hod⟩
  exact HandSPX.exc_get I1.kIn J T.ga T.gg T.exC (PySem.W.findObj_own T.hdC hno rfl (by rw [hl, hu])) (handed_of ru) ⟨v, H1, I1.tok _, ru, q⟩
end Sa

set_option maxHeartbeats 4000000
namespace Sa
open PySem PySem.Spec PyProof.Rows L2
/-! ### repr of data: none, bools, ints, texts, lists, tuples, dicts -/
def keyD : Key → PyData
  | .inl i => .int i
  | .inr x => .str x
mutual
inductive Dq (K : PySem.W.Frag) (H : Hp) : V → PyData → Prop
  | non : Dq K H .non .none
  | bl (b : Bool) : Dq K H (.bl b) (.bool b)
  | int (i : Int) : Dq K H (.int i) (.int i)
  | str (x : Str) : Dq K H (.str x) (.str x)
  | lst {a : Addr} {xs : List V} {ds : List PyData} : SqL K H a xs → DqAll K H xs ds → Dq K H (.ref a) (.list ds)
  | tup {a : Addr} {xs : List V} {ds : List PyData} : SqT K H a xs → DqAll K H xs ds → Dq K H (.ref a) (.tuple ds)
  | dct {a : Addr} {kvs : List (Key × V)} {ds : List (PyData × PyData)} : Rd H a (.dK kvs) → DqKv K H kvs ds → Dq K H (.ref a) (.dict ds)
inductive DqAll (K : PySem.W.Frag) (H : Hp) : List V → List PyData → Prop
  | nil : DqAll K H [] []
  | cons {v : V} {vs : List V} {d : PyData} {ds : List PyData} : Dq K H v d → DqAll K H vs ds → DqAll K H (v :: vs) (d :: ds)
inductive DqKv (K : PySem.W.Frag) (H : Hp) : List (Key × V) → List (PyData × PyData) → Prop
  | nil : DqKv K H [] []
  | cons {k : Key} {v : V} {kvs : List (Key × V)} {d : PyData} {ds : List (PyData × PyData)} : Dq K H v d → DqKv K H kvs ds → DqKv K H ((k, v) :: kvs) ((keyD k, d) :: ds)
end
/-- the written part has sys.modules -/
def SysK (K : PySem.W.Frag) : Prop := ∃ o, K.lookup sysModules = some o ∧ o.cls = .type "dict"
theorem key_reads {k : Key} {u : Value} {h : Heap} (e : keyIs k u = true) : Reads h u (keyD k) [] := by
  rcases keyIs_shape e with ⟨i, t, rfl, rfl⟩ | ⟨x, t, rfl, rfl⟩
  · exact Reads.int i t
  · exact Reads.str x t
section
variable {X : Cx} {pins : List (Addr × Obj)} {σ : L2.St} {H : Hp} {s : Shared}
theorem sys_ne (I : Inv X pins σ H s) (S : SysK X.K) {a : Addr} {o : Obj} (ho : s.heap.get? a = some o) (hc : o.cls ≠ .type "dict") : a ≠ sysModules := fun e => by
  obtain ⟨o', h1, h2⟩ := S
  have z := I.kIn _ _ h1
  rw [e, z] at ho
  cases ho
  exact hc h2
mutual
theorem Dq.reads (I : Inv X pins σ H s) (S : SysK X.K) : ∀ (d : PyData) (v : V) (u : Value), Dq X.K H v d → RelV v u → ∃ as, Reads s.heap u d as ∧ sysModules ∉ as
  | .none, _, _, h, r => by
    cases h
    cases r
    exact ⟨_, Reads.none, List.not_mem_nil⟩
  | .bool b, _, _, h, r => by
    cases h
    cases r
    exact ⟨_, Reads.bool b, List.not_mem_nil⟩
  | .int i, _, _, h, r => by
    cases h
    obtain ⟨t, rfl⟩ := r
    exact ⟨_, Reads.int i t, List.not_mem_nil⟩
  | .str x, _, _, h, r => by
    cases h
    obtain ⟨t, rfl⟩ := r
    exact ⟨_, Reads.str x t, List.not_mem_nil⟩
  | .list ds, _, _, h, r => by
    cases h with
    | lst hs ha =>
      cases r
      obtain ⟨its, rv, ⟨o, n, ho, hc, _, hd⟩, _⟩ := I.list hs
      obtain ⟨as, hr, hn⟩ := Dq.readsAll I S ds _ its ha rv
      exact ⟨_, Reads.list ho hc hd hr, fun hm => (List.mem_cons.mp hm).elim (fun e => sys_ne I S ho (by rw [hc]; decide) e.symm) hn⟩
  | .tuple ds, _, _, h, r => by
    cases h with
    | tup hs ha =>
      cases r
      obtain ⟨its, rv, ⟨o, ho, hc, n, hd⟩, _⟩ := I.tuple hs
      obtain ⟨as, hr, hn⟩ := Dq.readsAll I S ds _ its ha rv
      exact ⟨_, Reads.tuple ho hc hd hr, hn⟩
  | .dict ds, _, _, h, r => by
    cases h with
    | @dct a kvs _ hs hk =>
      cases r
      obtain ⟨_, hne, vs, rel, o, es, ep, ho, hx, hd, _, hp, _⟩ := dk_rd I.hok hs
      obtain ⟨as, bs, hr1, hr2, hn1, hn2⟩ := Dq.readsKv I S ds kvs _ _ hk hp rel
      refine ⟨_, Reads.dict ho hx.1 hd hr1 hr2, fun hm => ?_⟩
      rcases List.mem_cons.mp hm with e | hm
      · rw [e] at hne
        simp at hne
      · exact (List.mem_append.mp hm).elim hn1 hn2
theorem Dq.readsAll (I : Inv X pins σ H s) (S : SysK X.K) : ∀ (ds : List PyData) (vs : List V) (us : List Value), DqAll X.K H vs ds → Vals vs us → ∃ as, ReadsAll s.heap us ds as ∧ sysModules ∉ as
  | [], _, _, h, r => by
    cases h
    cases r
    exact ⟨_, ReadsAll.nil, List.not_mem_nil⟩
  | d :: ds, _, _, h, r => by
    cases h with
    | cons h1 h2 =>
      cases r with
      | cons r1 r2 =>
        obtain ⟨as, q1, n1⟩ := Dq.reads I S d _ _ h1 r1
        obtain ⟨bs, q2, n2⟩ := Dq.readsAll I S ds _ _ h2 r2
        exact ⟨_, ReadsAll.cons q1 q2, fun hm => (List.mem_append.mp hm).elim n1 n2⟩
theorem Dq.readsKv (I : Inv X pins σ H s) (S : SysK X.K) : ∀ (ds : List (PyData × PyData)) (kvs : List (Key × V)) (es : List DictEntry) (vs : List (Key × Value)), DqKv X.K H kvs ds → Pairs (mixKind X.prog X.w) es vs → KV kvs vs →
    ∃ as bs, ReadsAll s.heap (es.map (·.key)) (ds.map (·.1)) as ∧ ReadsAll s.heap (es.map (·.val)) (ds.map (·.2)) bs ∧ sysModules ∉ as ∧ sysModules ∉ bs
  | [], _, _, _, h, p, r => by
    cases h
    cases r
    cases p
    exact ⟨_, _, ReadsAll.nil, ReadsAll.nil, List.not_mem_nil, List.not_mem_nil⟩
  | (dk, d) :: ds, _, _, _, h, p, r => by
    cases h with
    | cons h1 h2 =>
      cases r with
      | cons r1 r2 =>
        cases p with
        | cons p1 p2 p3 =>
          obtain ⟨as, bs, q1, q2, n1, n2⟩ := Dq.readsKv I S ds _ _ _ h2 p3 r2
          rename_i k v kvs q vs e es
          have rv : L2.RelV v e.val := by
            rw [p2]
            exact r1.2
          have rk : keyIs k e.key = true := by
            have z : k = q.1 := r1.1
            rw [z]
            exact p1
          obtain ⟨cs, q3, n3⟩ := Dq.reads I S d _ _ h1 rv
          refine ⟨_, _, ReadsAll.cons (key_reads rk) q1, ReadsAll.cons q3 q2, fun hm => (List.mem_append.mp hm).elim (fun z => absurd z List.not_mem_nil) n1, fun hm => (List.mem_append.mp hm).elim n3 n2⟩
end
/-- repr(x), x a list, a tuple, a dict -/
def rRepr (K : PySem.W.Frag) : List V → Hp → VK → Prop := fun xs H Q => ∃ (a : Addr) (d : PyData), xs = [.ref a] ∧ Dq K H (.ref a) d ∧ d.showable = true ∧ d.depth < 60 ∧ d.shown.length ≤ sizeLine ∧ Q (.str d.shown) H
theorem call_reprD (S : SysK X.K) (hg : X.A.guards = some []) (hu : X.A.units + 64 < cLine) : CallR X (.builtin "repr") (rRepr X.K) := by
  intro pins s σ H xs us Q I r h
  obtain ⟨a, d, rfl, hd, h1, h2, h3, q⟩ := h
  cases r with
  | cons rx rr =>
    cases rr
    cases rx
    obtain ⟨as, hr, hn⟩ := Dq.reads I S d _ _ hd rfl
    exact repr_of_reads' hr h1 (fun _ => hn) hg (by omega) (fun _ _ e => e) (fun h' u tk hk => ⟨.str d.shown, H, I.kept (t' := tk) hk, ⟨_, rfl⟩, q⟩) h3
end
end Sa

set_option maxHeartbeats 4000000
/-! Defs that are called where no guard of repr is held: the law itself, and what it calls, may ask repr of data. -/
namespace Sa
open PySem PySem.Spec PyProof.Rows L2
theorem guards_deeper {A : Around} (h : A.guards = some []) (env : Env) : (A.deeper env).guards = some [] := h
/-- a def's promise, kept where no guard is held -/
structure FnG (P : Program) (w : World) (K : PySem.W.Frag) (mg : Str → Option Value) (base : Heap) (CX : CXT) (k : Nat) (f : Addr) (fd : FuncData) (ps : List Str) (sp : Sp) : Prop where
  len : ∀ vs H Q E, sp vs H Q E → vs.length = ps.length
  run : ∀ (A : Around) (outer : List Env) (s : Shared) (H : Hp) (args : Args) (us : List Value) (vs : List V) (Q : VK) (E : XK), A.guards = some [] → Room k A → Env0 P w K mg base A outer s H → BindsTo s fd args (ps.zip us) → Vals vs us → sp vs H Q E →
    codeAny (model P w) A (.call (.ref f) args) (CR CX outer P w H s Q E) s
section
variable {P : Program} {w : World} {K : PySem.W.Frag} {mg : Str → Option Value} {base : Heap} {CX : CXT} {k : Nat} {x qual : Str} {params : Arguments} {body : List Stmt} {scope : Scope} {dvs : List V} {kws : List (Str × V)} {f : Addr} {fd : FuncData} {N ps : List Str} {sp : Sp}
theorem FnG.of (F : FnOk P w K mg base CX k f fd ps sp) : FnG P w K mg base CX k f fd ps sp := ⟨F.len, fun A outer s H args us vs Q E _ hr e0 b r h => F.run A outer s H args us vs Q E hr e0 b r h⟩
theorem funG (F : FunD K x qual params body scope dvs kws f fd) (S : FnScope N ps scope) (len : ∀ vs H Q E, sp vs H Q E → vs.length = ps.length)
    (hbody : ∀ (cdv : Value) (A : Around) (outer : List Env) (s : Shared) (H : Hp) (vs : List V) (Q : VK) (E : XK), A.guards = some [] → Room k (A.deeper (envOfC qual scope s.heap.objs.size f cdv)) → sp vs H Q E →
      ∃ t, PSs (cxOf CX P w K mg base N qual scope f cdv A outer s H E) body t ∧ t { nx := fun _ H' => Q .non H', rt := Q } (start N vs) H) : FnG P w K mg base CX (k + 1) f fd ps sp := by
  obtain ⟨oc, od, dV, kV, doc, pm, an, cdv, ct, osl, rfl, lk, hcd, _, _⟩ := F.ex
  refine ⟨len, fun A outer s H args us vs Q E hg hr e0 hb r hsp => ?_⟩
  have KX : K.In s.heap := e0.mod.kin.keeps fun b o e => (e0.bs b o e).1
  refine codeAny_call_function hr.depth (KX _ _ lk) rfl S.co S.gen rfl (PySem.W.codeRec_of KX hcd) (hb _ _ _ _ ?_)
  refine wpAny_newFunctionEnv_cells S.kind (fun y hy => ?_) fun env he s1 x => ?_
  · rcases S.par y.1 (List.of_mem_zip hy).1 with q | q
    · exact .inl q
    · exact .inr ⟨q, PySem.W.cellsFrom_some _ _ _ (.inl q)⟩
  subst he
  refine ⟨(e0.mod.nolimit.keeps fun b o e => (e0.bs b o e).1).keeps x.toInCall.keep, codeAny_func ?_⟩
  obtain ⟨t, ht, hq⟩ := hbody cdv A outer s H vs Q E hg (hr.deeper _) hsp
  refine wpAny_mono (ht.run [] s1 (start N vs) H _ (inv_start S hr.hd e0 (len _ _ _ _ hsp) r x) hq) (fun fl s' hs => ?_) fun e s' hs => hs
  have fin : ∀ {σ' : L2.St} {H' : Hp} {v : V} {u : Value}, Inv (cxOf CX P w K mg base N qual scope f cdv A outer s H E) [] σ' H' s' → L2.RelV v u → Q v H' → CE outer P w H s Q u s' :=
    fun J rv q => ⟨_, _, J.os, J.bare, J.base, J.hok, rv, q⟩
  cases fl with
  | ret u => exact let ⟨v, σ', H', J, rv, q⟩ := hs; fin J rv q
  | next => exact let ⟨σ', H', J, q⟩ := hs; fin (v := V.non) (u := Value.none) J rfl q
  | brk => exact let ⟨_, _, _, q⟩ := hs; False.elim q
  | cont => exact let ⟨_, _, _, q⟩ := hs; False.elim q
end
/-! ### the law at its call -/
theorem law_callG {P : Program} {w : World} {K : PySem.W.Frag} {mg mb : Str → Option Value} {CX : CXT} {k : Nat} {fa a : Addr} {fd : FuncData} {x : Str} {sp : Sp} {s₁ : Shared} {vs : List Value} {ns : List Int}
    (KX : K.In s₁.heap) (hns : s₁.heap.Ns mainGlobals mg) (hb : s₁.heap.Ns builtinsNs mb) (hbb : ∀ x : Str, x ≠ "__name__" → mb x = bootBuiltins x) (hlim : s₁.heap.NoLimit) (hg : s₁.gens = #[])
    (ha : s₁.heap.get? a = some { cls := .type "list", data := .seq vs.toArray }) (hi : IntsAre vs ns) (hl : ns.length ≤ sizeLine) (hr : Room k callerA)
    (F : ∀ base : Heap, K.In base → base.Ns mainGlobals mg → FnG P w K mg base CX k fa fd [x] sp) (hbind : ∀ (s : Shared) (u : Value), BindsTo s fd ⟨[u], []⟩ [(x, u)])
    (hsp : ∀ H : Hp, Only H → SqL K H a (ns.map V.int) → sp [.ref a] H (fun v _ => v = .bl true) fun _ _ _ => False)
    (hCX : ∀ H e s', CX [] H s₁ (fun _ _ _ => False) e s' → False) :
    codeAny (model P w) callerA (.call (.ref fa) ⟨[.ref a], []⟩) (fun r s' => r = .ok (.ret (.bool true)) ∧ OldK s₁.heap s'.heap ∧ s'.os = s₁.os ∧ AllBare s'.gens) s₁ := by
  have rv := vals_ints hi
  have lenV := hi.length
  -- from an abstract heap in which nothing but the script may be tracked
  have core : ∀ H : Hp, Only H → SqL K H a (ns.map V.int) → HOk P w H s₁.heap → (∀ b, H b ≠ none → b = a) → (H a ≠ none → K.lookup a = none) →
      codeAny (model P w) callerA (.call (.ref fa) ⟨[.ref a], []⟩) (fun r s' => r = .ok (.ret (.bool true)) ∧ OldK s₁.heap s'.heap ∧ s'.os = s₁.os ∧ AllBare s'.gens) s₁ := by
    intro H hO hS hok hA hK
    have base_of : ∀ {b : Addr} {o : Obj}, s₁.heap.get? b = some o → H b = none → (hidT s₁.heap H).get? b = some o := fun e n => hidT_get e n
    have noA : ∀ {b : Addr} {o : Obj} {es : Array DictEntry} {ep : Nat}, s₁.heap.get? b = some o → o.data = .dict es ep → H b = none := fun {b o es ep} e d => by
      cases q : H b with
      | none => rfl
      | some u =>
        have e' : b = a := hA b (by rw [q]; simp)
        subst e'
        rw [ha] at e; cases e
        have d' : Data.seq vs.toArray _ = Data.dict es ep := d
        cases d'
    have nsK : ∀ {b : Addr} {m : Str → Option Value}, s₁.heap.Ns b m → (hidT s₁.heap H).Ns b m := fun {b m} ⟨o, es, ep, e, d, r⟩ => ⟨o, es, ep, base_of e (noA e d), d, r⟩
    have hKb : K.In (hidT s₁.heap H) := fun b o e => base_of (KX b o e) (by
      cases q : H b with
      | none => rfl
      | some u =>
        have e' : b = a := hA b (by rw [q]; simp)
        subst e'
        rw [hK (by rw [q]; simp)] at e; cases e)
    have hM : Mod K mg (hidT s₁.heap H) := ⟨hKb, nsK hns, ⟨mb, nsK hb, hbb⟩, let ⟨mc, h1, h2⟩ := hlim; ⟨mc, nsK h1, h2⟩⟩
    have e0 : Env0 P w K mg (hidT s₁.heap H) callerA [] s₁ H := ⟨rfl, hM, fun b o e => of_hidT e, Nat.le_of_eq (hidT_size _ _), trivial, fun b hb => absurd (show b ∈ ([] : List Addr) from hb) (by simp), hok, .of_eq hg⟩
    refine codeAny_mono ((F _ hKb (nsK hns)).run callerA [] s₁ H ⟨[.ref a], []⟩ [.ref a] [.ref a] _ _ rfl hr e0 (hbind s₁ (.ref a)) (.cons rfl .nil) (hsp H hO hS)) fun r s' h => ?_
    cases r with
    | error e => exact (hCX H e s' h).elim
    | ok fl =>
      cases fl with
      | next => exact False.elim h
      | brk => exact False.elim h
      | cont => exact False.elim h
      | ret u =>
        obtain ⟨v, H', os, bare, un, hok', r', q⟩ := h
        have q' : v = .bl true := q
        subst q'
        obtain rfl : u = Value.bool true := r'
        refine ⟨rfl, OldK.of_keep fun b o e => ?_, os, bare⟩
        cases q : H b with
        | none => exact un.keep b o e q (by intro z; exact absurd (show b ∈ ([] : List Addr) from z) (by simp)) (by simp)
        | some u =>
          rcases hO b with z | ⟨ob, xs, z⟩
          · rw [q] at z; cases z
          · have z2 := un.frzs b ob _ z
            obtain ⟨e1, _⟩ := hok b _ z
            obtain ⟨e2, _⟩ := hok' b _ z2
            rw [e] at e1; cases e1
            exact e2
  cases hk : K.lookup a with
  | some o =>
    -- the script is one of the module's own objects
    have e := KX a o hk
    rw [ha] at e
    cases e
    refine core (fun _ => none) (fun _ => .inl rfl) (.inr ⟨_, vs.toArray, _, hk, rfl, rfl, rfl, by rw [List.size_toArray, lenV]; exact hl, by simpa using rv⟩) (fun b u z => by have z' : (none : Option HO) = some u := z; cases z') (fun b z => absurd rfl z) fun z => absurd rfl z
  | none =>
    refine core (fun b => if b = a then some (.frz { cls := .type "list", data := .seq vs.toArray } (.lst (ns.map V.int))) else none) (fun b => ?_) (.inl (.inr ⟨{ cls := .type "list", data := .seq vs.toArray }, if_pos rfl⟩)) (fun b u z => ?_) (fun b z => ?_) fun _ => hk
    · by_cases hb : b = a
      · exact .inr ⟨_, _, if_pos hb⟩
      · exact .inl (if_neg hb)
    · by_cases hb : b = a
      · have z' := (if_pos hb).symm.trans z
        cases z'
        subst hb
        exact ⟨ha, by rw [List.length_map]; exact hl, vs, _, rv, ha⟩
      · have z' := (if_neg hb).symm.trans z
        cases z'
    · by_cases hb : b = a
      · exact hb
      · exact absurd (if_neg hb) z
/-- the end: from the law as a def that is called where no guard is held -/
theorem walk_ofG {l : PySem.W.OpenLaw} {n k : Nat} {q : Program} {loose : List Str} {XP : (Str → Option Value) → Heap → Prop} {YP : World → Heap → Prop} {d : DefRec} {CX : World → CXT} {x : Str}
    (hn : l.most = some n) (hn2 : n ≤ sizeLine) (hdf : d.params.defaults = []) (hr : Room k callerA)
    (F : ∀ (w : World) (mg : Str → Option Value) (fa : Addr) (h : Heap), YP w h → h.Ns mainGlobals mg → mg d.name = some (.ref fa) →
      ∃ (K : PySem.W.Frag) (fd : FuncData) (sp : Sp), K.In h ∧ (∀ (s : Shared) (u : Value), BindsTo s fd ⟨[u], []⟩ [(x, u)]) ∧
        (∀ (H : Hp) (a : Addr) (ns : List Int), ns.length ≤ n → Only H → SqL K H a (ns.map V.int) → sp [.ref a] H (fun v _ => v = .bl true) fun _ _ _ => False) ∧
        ∀ base : Heap, K.In base → base.Ns mainGlobals mg → FnG l.prog w K mg base (CX w) k fa fd [x] sp)
    (hCX : ∀ (w : World) (H : Hp) (s : Shared) (e : Value) (s' : Shared), CX w [] H s (fun _ _ _ => False) e s' → False) :
    PySem.W.WalkO q loose XP YP l.row.toRowW d [] (fun f vs => PySem.call f vs) := by
  refine Att.attach_call hn hdf fun w s₀ s₁ mg mb fa o pm cd doc a vs ns G Y ho hd hcd hmg hobj hints hlen hg => ?_
  obtain ⟨K, fd, sp, KX, hb, hsp, hF⟩ := F w mg fa _ Y G.T.g hmg
  exact law_callG KX G.T.g G.T.b G.T.builtins G.T.nolimit hg hobj hints (Nat.le_trans hlen hn2) hr hF hb (fun H hO hS => hsp H a ns hlen hO hS) fun H e s' => hCX w H s₁ e s'
end Sa

set_option maxHeartbeats 4000000
/-! What the head tells of a program's top, by names. -/
namespace Sa
open PySem PySem.Spec PyProof.Rows L2 NdefX He
/-- an error class and its __init__, super() first -/
structure SupD where
  cls : Str
  qual : Str
  params : Arguments
  body : List Stmt
  scope : Scope
  flds : List Str
abbrev FnS : Type := Option (Str × Str × Arguments × FuncBody × Scope × Addr × Addr)
def SupD.at_ (K : PySem.W.Frag) (d : SupD) : Addr := ma K (ga K d.cls) "__init__"
def SupD.see (K : PySem.W.Frag) (d : SupD) : FnS := match K.lookup (d.at_ K) with
  | some ⟨_, _, .func fd, _⟩ => some (fd.name, fd.qualname, fd.params, fd.body, fd.scope, fd.globals, fd.builtins)
  | _ => none
def SupD.val (d : SupD) : FnS := some ("__init__", d.qual, d.params, .stmts d.body, d.scope, mainGlobals, builtinsNs)
def SupD.cell (K : PySem.W.Frag) (d : SupD) : Addr := match K.lookup (d.at_ K) with
  | some ⟨_, _, .func fd, _⟩ => (match fd.closure with
    | [(_, c)] => c
    | _ => 0)
  | _ => 0
def SupD.code (K : PySem.W.Frag) (d : SupD) : Addr := match K.lookup (d.at_ K) with
  | some ⟨_, _, .func fd, _⟩ => (match fd.code with
    | .ref c => c
    | _ => 0)
  | _ => 0
def SupD.nf (K : PySem.W.Frag) (d : SupD) : NF := ⟨"__init__", d.qual, d.params, d.body, d.scope, [(("__class__" : Str), d.cell K)], d.code K⟩
/-- a class below ValueError alone, whatever its __init__ -/
def oexB (K : PySem.W.Frag) (C : Addr) : Bool := (match K.lookup C with
  | some ⟨.type "type", _, .cls cd, sl⟩ => (match cd.mro, sl.toList with
    | .ref C' :: bm, [_, _, _, _, some (.builtin n), _] => decide (C' = C) && (decide (n = "ValueError.__new__") && (!cd.hasDel && (cd.hasDict && HandSPX.refsVE bm)))
    | _, _ => false)
  | _ => false) && (decide (PySem.W.findIn K (.ref C) "__setattr__" = some (some (.builtin "object.__setattr__"))) && (decide (PySem.W.subIn K (.ref C) (.type "BaseException") = some true) && (decide (PySem.W.typeIn K (.ref C) = some (.type "type")) && PySem.W.keepIn K (.ref C))))
theorem oexB_ok {K : PySem.W.Frag} {C : Addr} (h : oexB K C = true) : OexC K C := by
  obtain ⟨h1, h⟩ := ba h
  obtain ⟨h2, h⟩ := ba h
  obtain ⟨h3, h⟩ := ba h
  obtain ⟨h4, h5⟩ := ba h
  refine ⟨?_, of_decide_eq_true h2, of_decide_eq_true h3, of_decide_eq_true h4, h5⟩
  split at h1
  · rename_i dd cd sl ho
    split at h1
    · rename_i C' bm k0 k1 k2 k3 n k5 hm hs
      obtain ⟨e1, h1⟩ := ba h1
      obtain ⟨e2, h1⟩ := ba h1
      obtain ⟨e3, h1⟩ := ba h1
      obtain ⟨e4, e5⟩ := ba h1
      have e1 := of_decide_eq_true e1
      have e2 := of_decide_eq_true e2
      subst e1 e2
      obtain ⟨nm, bs, mro, ns, qn, hd, sn, sub, ab, col, del⟩ := cd
      have d3 : del = false := by simpa using e3
      have d4 : hd = true := e4
      dsimp only at hm
      subst hm
      subst d3
      subst d4
      have hsl : sl = #[k0, k1, k2, k3, some (.builtin "ValueError.__new__"), k5] := by
        obtain ⟨l⟩ := sl
        simp only at hs
        rw [hs]
      subst hsl
      exact ⟨_, _, _, _, _, _, _, _, _, _, _, _, _, _, _, ho, e5⟩
    · cases h1
  · cases h1
def excB (K : PySem.W.Frag) (D : Addr) : Bool := decide (PySem.W.findIn K (.ref D) "__getattribute__" = some (some (.builtin "BaseException.__getattribute__"))) && (decide (PySem.W.findIn K (.ref D) "__getattr__" = some none) && (decide (PySem.W.subIn K (.ref D) (.type "BaseException") = some true) && (PySem.W.hasDictIn K D &&
  (decide (PySem.W.findIn K (.ref D) "__class__" = some (some (.builtin "object.__class__"))) && (decide (PySem.W.specialIn K (.builtin "object.__class__") "__get__" = some (some (.builtin "getset_descriptor.__get__"))) && (decide (PySem.W.takesIn K (.builtin "object.__class__") = some true) && decide (PySem.W.mroIn K D (.type "object") = some true)))))))
theorem excB_ok {K : PySem.W.Frag} {D : Addr} (h : excB K D = true) : ExcC K D := by
  obtain ⟨h1, h⟩ := ba h
  obtain ⟨h2, h⟩ := ba h
  obtain ⟨h3, h⟩ := ba h
  obtain ⟨h4, h⟩ := ba h
  obtain ⟨h5, h⟩ := ba h
  obtain ⟨h6, h⟩ := ba h
  obtain ⟨h7, h8⟩ := ba h
  exact ⟨of_decide_eq_true h1, of_decide_eq_true h2, of_decide_eq_true h3, h4, of_decide_eq_true h5, of_decide_eq_true h6, of_decide_eq_true h7, of_decide_eq_true h8⟩
theorem ExcC.xf {K : PySem.W.Frag} {C : Addr} (T : ExcC K C) : XfC K C := ⟨T.hg, T.hk, T.hs, T.hd⟩
def supShape (cl : List (Str × Addr)) (cd dv kv : Value) : Bool := match cl, cd, dv, kv with
  | [(x, _)], .ref _, .none, .none => decide (x = ("__class__" : Str))
  | _, _, _, _ => false
theorem supShape_ok {cl : List (Str × Addr)} {cd dv kv : Value} (h : supShape cl cd dv kv = true) : ∃ cc kc, cl = [(("__class__" : Str), cc)] ∧ cd = .ref kc ∧ dv = .none ∧ kv = .none := by
  unfold supShape at h
  split at h
  · have e := of_decide_eq_true h
    subst e
    exact ⟨_, _, rfl, rfl, rfl, rfl⟩
  · cases h
/-- the file of every code object of the program -/
def theFile : Str := "/claim/cut.py"
def SupD.ok (K : PySem.W.Frag) (d : SupD) : Bool := oexB K (ga K d.cls) && (excB K (ga K d.cls) && (decide (PySem.W.findIn K (.ref (ga K d.cls)) "__init__" = some (some (.ref (d.at_ K)))) && (decide (PySem.W.typeIn K (.ref (d.at_ K)) = some (.type "function")) &&
  (PySem.W.codeIn K (.ref (d.code K)) d.qual && ((match K.lookup (d.code K) with
    | some ⟨_, _, .fields vs, _⟩ => (match (vs[2]? : Option Value) with
      | some (.str f _) => theFile == f
      | _ => false)
    | _ => false) && ((match K.lookup (d.cell K) with
    | some ⟨_, _, .cell (some (.ref c)), _⟩ => decide (c = ga K d.cls)
    | _ => false) && ((match K.lookup (d.at_ K) with
    | some ⟨_, _, .func fd, _⟩ => supShape fd.closure fd.code fd.defaults fd.kwdefaults
    | _ => false) && (decide (PySem.W.ks_superIn K (ga K d.cls) (ga K d.cls) "__init__" = some (some (.builtin "ValueError.__init__"))) && (decide (PySem.W.subIn K (.ref (ga K d.cls)) (.type "ValueError") = some true) && (decide (PySem.W.mroIn K (ga K d.cls) (.ref (ga K d.cls)) = some true) &&
    (decide (PySem.W.nsIn K cStatics "thirdparty.any" = some none) && d.flds.all fun f => decide (PySem.W.findIn K (.ref (ga K d.cls)) f = some none))))))))))))
theorem SupD.supK {P : Program} {K : PySem.W.Frag} {d : SupD} (hf : P.main.file = theFile) (e : d.see K = d.val) (h : d.ok K = true) :
    (∃ fd, SupK P K (ga K d.cls) (d.nf K) (d.at_ K) fd) ∧ ExcC K (ga K d.cls) ∧ ∀ f ∈ d.flds, PySem.W.findIn K (.ref (ga K d.cls)) f = some none := by
  obtain ⟨h1, h⟩ := ba h
  obtain ⟨h2, h⟩ := ba h
  obtain ⟨h3, h⟩ := ba h
  obtain ⟨h4, h⟩ := ba h
  obtain ⟨h5, h⟩ := ba h
  obtain ⟨h6, h⟩ := ba h
  obtain ⟨h7, h⟩ := ba h
  obtain ⟨h8, h⟩ := ba h
  obtain ⟨h9, h⟩ := ba h
  obtain ⟨h10, h⟩ := ba h
  obtain ⟨h11, h⟩ := ba h
  obtain ⟨h12, h13⟩ := ba h
  refine ⟨?_, excB_ok h2, fun f hfm => of_decide_eq_true (List.all_eq_true.mp h13 f hfm)⟩
  have hcode : ∃ (ccl : Value) (cdd : Option Addr) (vs : Array Value) (ccs : Array (Option Value)) (file : Str) (tf : Tok), K.lookup (d.code K) = some ⟨ccl, cdd, .fields vs, ccs⟩ ∧ vs[2]? = some (.str file tf) ∧ ((P.main.file : Str) == file) = true := by
    split at h6
    · rename_i ccl cdd vs ccs ho
      split at h6
      · rename_i f t hv
        exact ⟨ccl, cdd, vs, ccs, f, t, ho, hv, by rw [hf]; exact h6⟩
      · cases h6
    · cases h6
  have hcell : ∃ (cc : Addr) (a : Value) (b : Option Addr) (c : Array (Option Value)), [(("__class__" : Str), d.cell K)] = [(("__class__" : Str), cc)] ∧ K.lookup cc = some ⟨a, b, .cell (some (.ref (ga K d.cls))), c⟩ := by
    split at h7
    · rename_i a b c sl ho
      have z := of_decide_eq_true h7
      subst z
      exact ⟨_, a, b, sl, rfl, ho⟩
    · cases h7
  have e0 : (match K.lookup (d.at_ K) with
    | some ⟨_, _, .func fd, _⟩ => some (fd.name, fd.qualname, fd.params, fd.body, fd.scope, fd.globals, fd.builtins)
    | _ => none) = (some ("__init__", d.qual, d.params, .stmts d.body, d.scope, mainGlobals, builtinsNs) : FnS) := e
  have hc : (match K.lookup (d.at_ K) with
    | some ⟨_, _, .func fd, _⟩ => (match fd.closure with
      | [(_, c)] => c
      | _ => 0)
    | _ => 0) = d.cell K := rfl
  have hk : (match K.lookup (d.at_ K) with
    | some ⟨_, _, .func fd, _⟩ => (match fd.code with
      | .ref c => c
      | _ => 0)
    | _ => 0) = d.code K := rfl
  cases q : K.lookup (d.at_ K) with
  | none =>
    rw [q] at e0
    cases e0
  | some o =>
    obtain ⟨oc, od, dt, osl⟩ := o
    rw [q] at e0 h8 hc hk
    cases dt with
    | func fd =>
      obtain ⟨n1, n2, n3, n4, n5, n6, n7, n8, n9, n10, n11, n12, n13, n14, n15⟩ := fd
      have e2 : (some (n1, n2, n3, n4, n5, n6, n15) : FnS) = (some (("__init__" : Str), d.qual, d.params, FuncBody.stmts d.body, d.scope, mainGlobals, builtinsNs) : FnS) := e0
      simp only [Option.some.injEq, Prod.mk.injEq] at e2
      obtain ⟨g1, g2, g3, g4, g5, g6, g7⟩ := e2
      subst g1 g2 g3 g4 g5 g6 g7
      have h8' : supShape n7 n13 n8 n9 = true := h8
      obtain ⟨cc, kc, y1, y2, y3, y4⟩ := supShape_ok h8'
      subst y1 y2 y3 y4
      have hc' : cc = d.cell K := hc
      have hk' : kc = d.code K := hk
      refine ⟨_, oexB_ok h1, of_decide_eq_true h3, of_decide_eq_true h4, ⟨oc, od, n10, n11, n14, n12, osl, rfl, ?_⟩, h5, hcode, hcell, of_decide_eq_true h9, of_decide_eq_true h10, of_decide_eq_true h11, of_decide_eq_true h12⟩
      rw [q]
      show some _ = some _
      unfold SupD.nf
      rw [← hc', ← hk']
    | _ => cases e0
end Sa

set_option maxHeartbeats 4000000
namespace Sa
open PySem PySem.Spec PyProof.Rows L2 NdefX He
/-! ### the Hook -/
structure Sx where
  glos : List Str
  frees : List Str
  defs : List DefD
  sups : List SupD
  chk : PySem.W.Frag → Bool
abbrev AlS : Type := Bool × List FnW × List FnS
def sysB (K : PySem.W.Frag) : Bool := match K.lookup sysModules with
  | some ⟨.type "dict", _, _, _⟩ => true
  | _ => false
theorem sysB_ok {K : PySem.W.Frag} (h : sysB K = true) : SysK K := by
  unfold sysB at h
  split at h
  · rename_i a b c ho
    exact ⟨_, ho, rfl⟩
  · cases h
def obsS (sp : Sx) (K : PySem.W.Frag) : AlS := ((sp.glos.all fun x => (Fa.glo x).ok K) && ((sp.frees.all fun x => (Fa.free x).ok K) && ((sp.defs.all fun d => d.ok K) && ((sp.sups.all fun d => d.ok K) && (sysB K && sp.chk K)))), sp.defs.map fun d => fnW K d.at_, sp.sups.map fun d => d.see K)
def valS (sp : Sx) : AlS := (true, sp.defs.map DefD.val, sp.sups.map SupD.val)
def asS (g : Addr → Option Obj) (n : Nat) : List Addr := asD g n ++ [cStatics, sysModules]
def obsSG (n : Nat) (sp : Sx) (g : Addr → Option Obj) : AlS := obsS sp (frG g (asS g n))
def hookS (n : Nat) (sp : Sx) : PySem.W.Hook where
  α := AlS
  obs := fun s => obsSG n sp s.heap.get?
  val := fun _ => valS sp
  says := fun _ h => ∃ K : PySem.W.Frag, K.In h ∧ obsS sp K = valS sp
  of := fun _ _ e => ⟨_, frG_in, e⟩
  keeps := fun _ _ _ ⟨K, hK, c⟩ k => ⟨K, PySem.W.Frag.In.keeps hK k, c⟩
theorem obsSG_eq {n : Nat} {sp : Sx} {g : Addr → Option Obj} {s : Shared} (h : ∀ a, g a = s.heap.get? a) : obsSG n sp g = (hookS n sp).obs s := by
  have e : g = s.heap.get? := funext h
  rw [e] <;> rfl
/-- two lists of facts, each asked by a run of its own -/
def hookP (n : Nat) (A B : Sx) : PySem.W.Hook where
  α := AlS × AlS
  obs := fun s => (obsSG n A s.heap.get?, obsSG n B s.heap.get?)
  val := fun _ => (valS A, valS B)
  says := fun _ h => ∃ K : PySem.W.Frag, K.In h ∧ obsS A K = valS A ∧ obsS B K = valS B
  of := fun _ _ e => ⟨_, frG_in, congrArg Prod.fst e, congrArg Prod.snd e⟩
  keeps := fun _ _ _ ⟨K, hK, c⟩ k => ⟨K, PySem.W.Frag.In.keeps hK k, c⟩
def obP (n : Nat) (A B : Sx) (s : PySem.W.SharedT) : AlS × AlS := (obsSG n A (HandSHeadRun.getT s), obsSG n B (HandSHeadRun.getT s))
theorem obP_eq (n : Nat) (A B : Sx) (s : PySem.W.SharedT) : obP n A B s = (hookP n A B).obs s.abs := by
  have e : HandSHeadRun.getT s = s.abs.heap.get? := funext (HandSHeadRun.getT_eq s)
  show (obsSG n A (HandSHeadRun.getT s), obsSG n B (HandSHeadRun.getT s)) = _
  rw [e] <;> rfl
noncomputable abbrev endQ (r : PySem.W.OpenRow) (M : Nat) (w : World) (os : OsState) : Option PySem.W.SharedT := HandSHeadRun.endF (HandSHeadRun.stepQ (HandSHeadRun.denQ HandSHeadRun.tabQ) r.prog w) M r.prog w os
/-- the head's equation of three runs -/
theorem run_split {r : PySem.W.OpenRow} {q : Program} {n M : Nat} {A B : Sx} {loose : List PySem.Str} {w : World}
    (h1 : ∀ os : OsState, (endQ r M w os).map (fun s => (HandSHeadRun.looksF r.prog (PySem.W.boot_heap w.params) s.abs, HandSHeadRun.seenQ q loose (importedModules r.prog.main.body) (fun s => PySem.W.xlAt q [] s && PySem.W.recOk r.toRowW.records s) s.abs)) = some (true, PySem.W.openGood q loose))
    (h2 : ∀ os : OsState, (endQ r M w os).map (fun s => obsSG n A (HandSHeadRun.getT s)) = some (valS A))
    (h3 : ∀ os : OsState, (endQ r M w os).map (fun s => obsSG n B (HandSHeadRun.getT s)) = some (valS B)) : HandSHeadRun.RunEq r q (hookP n A B) (obP n A B) M loose w := by
  intro os
  have a1 := h1 os
  have a2 := h2 os
  have a3 := h3 os
  show (endQ r M w os).map _ = _
  cases e : endQ r M w os with
  | none =>
    rw [e] at a1
    cases a1
  | some s =>
    rw [e] at a1 a2 a3
    obtain ⟨b0, b1⟩ := Prod.mk.inj (Option.some.inj a1)
    have b2 : obsSG n A (HandSHeadRun.getT s) = valS A := Option.some.inj a2
    have b3 : obsSG n B (HandSHeadRun.getT s) = valS B := Option.some.inj a3
    exact congrArg some (Prod.ext b0 (Prod.ext b1 (Prod.ext b2 b3)))
/-- what stands behind the top -/
structure Tx (sp : Sx) (K : PySem.W.Frag) (mg : Str → Option Value) : Prop where
  at_ : ∃ h : Heap, K.In h ∧ h.Ns mainGlobals mg
  c : obsS sp K = valS sp
def mkD (x : Str) (st : Stmt) : DefD := ⟨(x, none), x, x, defArgs st, defBody st, defScope st, [], []⟩
section
variable {sp : Sx} {K : PySem.W.Frag} {mg : Str → Option Value}
theorem Tx.all (T : Tx sp K mg) : ((sp.glos.all fun x => (Fa.glo x).ok K) = true ∧ (sp.frees.all fun x => (Fa.free x).ok K) = true) ∧ ((sp.defs.all fun d => d.ok K) = true ∧ (sp.sups.all fun d => d.ok K) = true) ∧ (sysB K = true ∧ sp.chk K = true) := by
  obtain ⟨h1, h⟩ := ba (congrArg (fun z : AlS => z.1) T.c)
  obtain ⟨h2, h⟩ := ba h
  obtain ⟨h3, h⟩ := ba h
  obtain ⟨h4, h⟩ := ba h
  obtain ⟨h5, h6⟩ := ba h
  exact ⟨⟨h1, h2⟩, ⟨h3, h4⟩, h5, h6⟩
theorem Tx.glo (T : Tx sp K mg) (x : Str) (h : x ∈ sp.glos := by decide +kernel) : mg x = some (.ref (ga K x)) := by
  obtain ⟨_, X, G⟩ := T.at_
  exact glo_ok X G (List.all_eq_true.mp T.all.1.1 x h)
theorem Tx.free (T : Tx sp K mg) (x : Str) (h : x ∈ sp.frees := by decide +kernel) : mg x = none := by
  obtain ⟨_, X, G⟩ := T.at_
  exact free_ok X G (List.all_eq_true.mp T.all.1.2 x h)
theorem Tx.sys (T : Tx sp K mg) : SysK K := sysB_ok T.all.2.2.1
theorem Tx.chk (T : Tx sp K mg) : sp.chk K = true := T.all.2.2.2
theorem Tx.def_ (T : Tx sp K mg) (i : Nat) {x : Str} {st : Stmt} (h : sp.defs[i]? = some (mkD x st)) : ∃ fd, FunD K x x (defArgs st) (defBody st) (defScope st) [] [] (ga K x) fd := by
  have e : sp.defs.map (fun d => fnW K d.at_) = sp.defs.map DefD.val := congrArg (fun z : AlS => z.2.1) T.c
  have e2 : (sp.defs.map fun d => fnW K d.at_)[i]? = (sp.defs.map DefD.val)[i]? := by rw [e]
  rw [List.getElem?_map, List.getElem?_map, h] at e2
  exact DefD.funD (d := mkD x st) (Option.some.inj e2) (List.all_eq_true.mp T.all.2.1.1 _ (List.mem_of_getElem? h))
theorem Tx.sup (T : Tx sp K mg) (i : Nat) {P : Program} {d : SupD} (hf : P.main.file = theFile) (h : sp.sups[i]? = some d) :
    (∃ fd, SupK P K (ga K d.cls) (d.nf K) (d.at_ K) fd) ∧ ExcC K (ga K d.cls) ∧ ∀ f ∈ d.flds, PySem.W.findIn K (.ref (ga K d.cls)) f = some none := by
  have e : sp.sups.map (fun d => d.see K) = sp.sups.map SupD.val := congrArg (fun z : AlS => z.2.2) T.c
  have e2 : (sp.sups.map fun d => d.see K)[i]? = (sp.sups.map SupD.val)[i]? := by rw [e]
  rw [List.getElem?_map, List.getElem?_map, h] at e2
  exact SupD.supK hf (Option.some.inj e2) (List.all_eq_true.mp T.all.2.1.2 _ (List.mem_of_getElem? h))
end
/-! ### a def by its promise -/
structure Cal (P : Program) (w : World) (K : PySem.W.Frag) (mg : Str → Option Value) (base : Heap) (x : Str) (k : Nat) (ps : List Str) (sp : Sp) : Prop where
  ok : ∃ fd, FnOk P w K mg base (L2.CX P w) k (ga K x) fd ps sp ∧ Binds K fd ps []
  kp : PySem.W.keepIn K (.ref (ga K x)) = true
  at_ : mg x = some (.ref (ga K x))
/-- .. where no guard of repr is held -/
structure CalG (P : Program) (w : World) (K : PySem.W.Frag) (mg : Str → Option Value) (base : Heap) (x : Str) (k : Nat) (ps : List Str) (sp : Sp) : Prop where
  ok : ∃ fd, FnG P w K mg base (L2.CX P w) k (ga K x) fd ps sp ∧ ∀ (s : Shared) (us : List Value), us.length = ps.length → BindsTo s fd ⟨us, []⟩ (ps.zip us)
  kp : PySem.W.keepIn K (.ref (ga K x)) = true
  at_ : mg x = some (.ref (ga K x))
section
variable {P : Program} {w : World} {K : PySem.W.Frag} {mg : Str → Option Value} {base : Heap} {sx : Sx} {x : Str} {st : Stmt} {N ps : List Str} {k : Nat} {sp : Sp}
theorem Tx.cal (T : Tx sx K mg) (i : Nat) (hd : sx.defs[i]? = some (mkD x st)) (hx : x ∈ sx.glos) (S : FnScope N ps (defScope st)) (len : ∀ vs H Q E, sp vs H Q E → vs.length = ps.length)
    (hbind : ∀ (kV doc pm : Value) (an : Option Addr) (cdv ct : Value) (us : List Value), us.length = ps.length → bindArgs (PySem.W.fnOf x x (defArgs st) (defBody st) (defScope st) .none kV doc pm an cdv ct) ⟨us, []⟩ = pure (ps.zip us))
    (hbody : ∀ (cdv : Value) (A : Around) (outer : List Env) (s : Shared) (H : Hp) (vs : List V) (Q : VK) (E : XK), Room k (A.deeper (envOfC x (defScope st) s.heap.objs.size (ga K x) cdv)) → sp vs H Q E →
      ∃ t, PSs (cxOf (L2.CX P w) P w K mg base N x (defScope st) (ga K x) cdv A outer s H E).nox (defBody st) t ∧ t { nx := fun _ H' => Q .non H', rt := Q } (start N vs) H) : Cal P w K mg base x (k + 1) ps sp := by
  obtain ⟨fd, F⟩ := T.def_ i hd
  refine ⟨⟨fd, F.ok S len fun cdv A outer s H vs Q E hr h => ?_, F.bindsN hbind⟩, F.kp, T.glo x hx⟩
  obtain ⟨t, h1, h2⟩ := hbody cdv A outer s H vs Q E hr h
  exact ⟨t, h1.nox, h2⟩
/-- .. that may raise -/
theorem Tx.calX (T : Tx sx K mg) (i : Nat) (hd : sx.defs[i]? = some (mkD x st)) (hx : x ∈ sx.glos) (S : FnScope N ps (defScope st)) (len : ∀ vs H Q E, sp vs H Q E → vs.length = ps.length)
    (hbind : ∀ (kV doc pm : Value) (an : Option Addr) (cdv ct : Value) (us : List Value), us.length = ps.length → bindArgs (PySem.W.fnOf x x (defArgs st) (defBody st) (defScope st) .none kV doc pm an cdv ct) ⟨us, []⟩ = pure (ps.zip us))
    (hbody : ∀ (cdv : Value) (A : Around) (outer : List Env) (s : Shared) (H : Hp) (vs : List V) (Q : VK) (E : XK), Room k (A.deeper (envOfC x (defScope st) s.heap.objs.size (ga K x) cdv)) → sp vs H Q E →
      ∃ t, PSs (cxOf (L2.CX P w) P w K mg base N x (defScope st) (ga K x) cdv A outer s H E) (defBody st) t ∧ t { nx := fun _ H' => Q .non H', rt := Q } (start N vs) H) : Cal P w K mg base x (k + 1) ps sp := by
  obtain ⟨fd, F⟩ := T.def_ i hd
  exact ⟨⟨fd, F.ok S len hbody, F.bindsN hbind⟩, F.kp, T.glo x hx⟩
theorem funG_nox {f : Addr} {fd : FuncData} {qual : Str} (F : FunD K x qual (defArgs st) (defBody st) (defScope st) [] [] f fd) (S : FnScope N ps (defScope st)) (len : ∀ vs H Q E, sp vs H Q E → vs.length = ps.length)
    (hbody : ∀ (cdv : Value) (A : Around) (outer : List Env) (s : Shared) (H : Hp) (vs : List V) (Q : VK) (E : XK), A.guards = some [] → Room k (A.deeper (envOfC qual (defScope st) s.heap.objs.size f cdv)) → sp vs H Q E →
      ∃ t, PSs (cxOf (L2.CX P w) P w K mg base N qual (defScope st) f cdv A outer s H E).nox (defBody st) t ∧ t { nx := fun _ H' => Q .non H', rt := Q } (start N vs) H) : FnG P w K mg base (L2.CX P w) (k + 1) f fd ps sp := by
  refine funG F S len fun cdv A outer s H vs Q E hg hr h => ?_
  obtain ⟨t, h1, h2⟩ := hbody cdv A outer s H vs Q E hg hr h
  exact ⟨t, h1.nox, h2⟩
theorem Tx.calG (T : Tx sx K mg) (i : Nat) (hd : sx.defs[i]? = some (mkD x st)) (hx : x ∈ sx.glos) (S : FnScope N ps (defScope st)) (len : ∀ vs H Q E, sp vs H Q E → vs.length = ps.length)
    (hbind : ∀ (kV doc pm : Value) (an : Option Addr) (cdv ct : Value) (us : List Value), us.length = ps.length → bindArgs (PySem.W.fnOf x x (defArgs st) (defBody st) (defScope st) .none kV doc pm an cdv ct) ⟨us, []⟩ = pure (ps.zip us))
    (hbody : ∀ (cdv : Value) (A : Around) (outer : List Env) (s : Shared) (H : Hp) (vs : List V) (Q : VK) (E : XK), A.guards = some [] → Room k (A.deeper (envOfC x (defScope st) s.heap.objs.size (ga K x) cdv)) → sp vs H Q E →
      ∃ t, PSs (cxOf (L2.CX P w) P w K mg base N x (defScope st) (ga K x) cdv A outer s H E).nox (defBody st) t ∧ t { nx := fun _ H' => Q .non H', rt := Q } (start N vs) H) : CalG P w K mg base x (k + 1) ps sp := by
  obtain ⟨fd, F⟩ := T.def_ i hd
  refine ⟨⟨fd, funG F S len fun cdv A outer s H vs Q E hg hr h => ?_, FunD.bindsA F hbind⟩, F.kp, T.glo x hx⟩
  obtain ⟨t, h1, h2⟩ := hbody cdv A outer s H vs Q E hg hr h
  exact ⟨t, h1.nox, h2⟩
end
section
variable {X : Cx} {x : Str} {j k : Nat} {ps : List Str} {sp : Sp} {p pos : Pos} {e : Expr} {es : List Expr} {t : TA}
theorem pe_cal (C : Cal X.prog X.w X.K X.mg X.base x k ps sp) (hr : Room j X.A) (ha : PA X (e :: es) t) (hk : k ≤ j := by decide) (hg : Gl X x := by rfl)
    (hdb : (x == ("__debug__" : Str)) = false := by decide) (he : starEach (e :: es) X.env = (false, eval e X.env) :: starEach es X.env := by rfl) (hpl : (backTo pos (starEach es X.env)).any (·.1) = false := by rfl) :
    PE X (.Call (.Name x p) (e :: es) [] pos) (tCall sp [] E0 t) := by
  obtain ⟨fd, F, b⟩ := C.ok
  exact pe_call F (hr.mono hk) hg C.at_ C.kp b .nil passL ha hdb he hpl
theorem pe_cal0 (C : Cal X.prog X.w X.K X.mg X.base x k ps sp) (hr : Room j X.A) (hk : k ≤ j := by decide) (hg : Gl X x := by rfl) (hdb : (x == ("__debug__" : Str)) = false := by decide) :
    PE X (.Call (.Name x p) [] [] pos) (tCall sp [] E0 tNil) := by
  obtain ⟨fd, F, b⟩ := C.ok
  exact pe_call0 F (hr.mono hk) hg C.at_ C.kp b .nil passL hdb
end
end Sa

set_option maxHeartbeats 4000000
namespace K24
open PySem PySem.Spec PyProof.Rows L2 He Sa
abbrev theP : Program := PySem.Challenge.pw_saidandasked_k24_errors_made_and_bases
def topS (i : Nat) : Stmt := PySem.Challenge.pw_saidandasked_k24_errors_made_and_bases.main.body.getD i (.Pass ⟨0, 0, 0, 0⟩)
abbrev sbegun : Stmt := topS 64
abbrev smixed : Stmt := topS 65
abbrev stake : Stmt := topS 66
abbrev spick : Stmt := topS 67
abbrev splain_errors : Stmt := topS 68
abbrev stold_errors : Stmt := topS 69
abbrev sclasses : Stmt := topS 70
abbrev slaw : Stmt := topS 71
abbrev iBadBits : Stmt := inClass (topS 5) 0
abbrev iBadDocuments : Stmt := inClass (topS 10) 0
abbrev iBadHistories : Stmt := inClass (topS 13) 0
abbrev iBadLaws : Stmt := inClass (topS 18) 0
abbrev iBadPaper : Stmt := inClass (topS 28) 0
abbrev iBadText : Stmt := inClass (topS 37) 0
abbrev iNotPossible : Stmt := inClass (topS 50) 0
abbrev iNotRight : Stmt := inClass (topS 51) 0
abbrev iNotTrue : Stmt := inClass (topS 52) 0
abbrev iOverAsks : Stmt := inClass (topS 56) 0
abbrev iParted : Stmt := inClass (topS 57) 0
abbrev iSameName : Stmt := inClass (topS 58) 0
abbrev iTooShort : Stmt := inClass (topS 61) 0
def glos0 : List Str := ["PageError", "BadAnswer", "BadAnswers", "BadBit", "BadBits", "BadCall", "BadClause", "BadCount", "BadDocument", "BadDocuments", "BadFuture", "BadGroup", "BadHistories", "BadHistory", "BadHouse", "BadIndex", "BadLaw", "BadLaws", "BadLeft", "BadLimit", "BadMany", "BadMeaning", "BadMost", "BadName", "BadNames", "BadNumber", "BadOuter", "BadPaper", "BadPool", "BadProgram"]
def glos1 : List Str := ["BadPrograms", "BadScript", "BadSet", "BadStand", "BadState", "BadSuite", "BadText", "BadThing", "BadWord", "Empty", "Ended", "ManyObjects", "NoDifference", "NotAsked", "NotDone", "NotEnough", "NotGuessed", "NotMet", "NotOrderly", "NotPossible", "NotRight", "NotTrue", "NothingDone", "NothingUndone", "OtherHouse", "OverAsks", "Parted", "SameName", "Sound", "TooMany"]
def glos2 : List Str := ["TooShort", "Unsound", "_law_begun", "_law_mixed", "_law_take", "_law_pick", "_law_plain_errors", "_law_told_errors", "_law_classes", "law"]
def glos : List Str := glos0 ++ glos1 ++ glos2
def frees : List Str := ["ValueError", "abs", "enumerate", "int", "isinstance", "len", "repr", "set", "super"]
def defs : List DefD := [mkD "_law_begun" sbegun, mkD "_law_mixed" smixed, mkD "_law_take" stake, mkD "_law_pick" spick, mkD "_law_plain_errors" splain_errors, mkD "_law_told_errors" stold_errors, mkD "_law_classes" sclasses, mkD "law" slaw]
def sups : List SupD := [⟨"BadBits", "BadBits.__init__", defArgs iBadBits, defBody iBadBits, defScope iBadBits, ["at"]⟩, ⟨"BadDocuments", "BadDocuments.__init__", defArgs iBadDocuments, defBody iBadDocuments, defScope iBadDocuments, ["at"]⟩, ⟨"BadHistories", "BadHistories.__init__", defArgs iBadHistories, defBody iBadHistories, defScope iBadHistories, ["at"]⟩, ⟨"BadLaws", "BadLaws.__init__", defArgs iBadLaws, defBody iBadLaws, defScope iBadLaws, ["at"]⟩, ⟨"BadPaper", "BadPaper.__init__", defArgs iBadPaper, defBody iBadPaper, defScope iBadPaper, ["word"]⟩, ⟨"BadText", "BadText.__init__", defArgs iBadText, defBody iBadText, defScope iBadText, ["line", "column", "wanted"]⟩, ⟨"NotPossible", "NotPossible.__init__", defArgs iNotPossible, defBody iNotPossible, defScope iNotPossible, ["at"]⟩, ⟨"NotRight", "NotRight.__init__", defArgs iNotRight, defBody iNotRight, defScope iNotRight, ["word"]⟩, ⟨"NotTrue", "NotTrue.__init__", defArgs iNotTrue, defBody iNotTrue, defScope iNotTrue, ["word"]⟩, ⟨"OverAsks", "OverAsks.__init__", defArgs iOverAsks, defBody iOverAsks, defScope iOverAsks, ["at"]⟩, ⟨"Parted", "Parted.__init__", defArgs iParted, defBody iParted, defScope iParted, ["word"]⟩, ⟨"SameName", "SameName.__init__", defArgs iSameName, defBody iSameName, defScope iSameName, ["name"]⟩, ⟨"TooShort", "TooShort.__init__", defArgs iTooShort, defBody iTooShort, defScope iTooShort, ["program"]⟩]
-- places of defs: begun=0 mixed=1 take=2 pick=3 plain_errors=4 told_errors=5 classes=6 law=7
-- places of sups: BadBits=0 BadDocuments=1 BadHistories=2 BadLaws=3 BadPaper=4 BadText=5 NotPossible=6 NotRight=7 NotTrue=8 OverAsks=9 Parted=10 SameName=11 TooShort=12
def loose0 : List PySem.Str := ["PageError", "BadAnswer", "BadAnswers", "BadBit", "BadBits", "BadCall", "BadClause", "BadCount", "BadDocument", "BadDocuments", "BadFuture", "BadGroup", "BadHistories", "BadHistory", "BadHouse", "BadIndex", "BadLaw", "BadLaws", "BadLeft", "BadLimit", "BadMany", "BadMeaning", "BadMost", "BadName", "BadNames", "BadNumber", "BadOuter", "BadPaper", "BadPool", "BadProgram"]
def loose1 : List PySem.Str := ["BadPrograms", "BadScript", "BadSet", "BadStand", "BadState", "BadSuite", "BadText", "BadThing", "BadWord", "Empty", "Ended", "ManyObjects", "NoDifference", "NotAsked", "NotDone", "NotEnough", "NotGuessed", "NotMet", "NotOrderly", "NotPossible", "NotRight", "NotTrue", "NothingDone", "NothingUndone", "OtherHouse", "OverAsks", "Parted", "SameName", "Sound", "TooMany"]
def loose2 : List PySem.Str := ["TooShort", "Unsound", "_law_begun", "_law_mixed", "_law_take", "_law_pick", "_law_plain_errors", "_law_told_errors", "_law_classes"]
def loose : List PySem.Str := loose0 ++ loose1 ++ loose2
def lawAt : Nat := 71
def errs0 : List Str := ["BadAnswer", "BadAnswers", "BadBit", "BadBits", "BadCall", "BadClause", "BadCount", "BadDocument", "BadDocuments", "BadFuture", "BadGroup", "BadHistories", "BadHistory", "BadHouse", "BadIndex", "BadLaw", "BadLaws", "BadLeft", "BadLimit", "BadMany", "BadMeaning", "BadMost", "BadName", "BadNames", "BadNumber", "BadOuter", "BadPaper", "BadPool", "BadProgram", "BadPrograms"]
def errs1 : List Str := ["BadScript", "BadSet", "BadStand", "BadState", "BadSuite", "BadText", "BadThing", "BadWord", "Empty", "Ended", "ManyObjects", "NoDifference", "NotAsked", "NotDone", "NotEnough", "NotGuessed", "NotMet", "NotOrderly", "NotPossible", "NotRight", "NotTrue", "NothingDone", "NothingUndone", "OtherHouse", "OverAsks", "Parted", "SameName", "Sound", "TooMany", "TooShort"]
def errs2 : List Str := ["Unsound"]
def errs : List Str := errs0 ++ errs1 ++ errs2
def plain0 : List Str := ["BadAnswer", "BadAnswers", "BadBit", "BadCall", "BadClause", "BadCount", "BadDocument", "BadFuture", "BadGroup", "BadHistory", "BadHouse", "BadIndex", "BadLaw", "BadLeft", "BadLimit", "BadMany", "BadMeaning", "BadMost", "BadName", "BadNames", "BadNumber", "BadOuter", "BadPool", "BadProgram", "BadPrograms", "BadScript", "BadSet", "BadStand", "BadState", "BadSuite"]
def plain1 : List Str := ["BadThing", "BadWord", "Empty", "Ended", "ManyObjects", "NoDifference", "NotAsked", "NotDone", "NotEnough", "NotGuessed", "NotMet", "NotOrderly", "NothingDone", "NothingUndone", "OtherHouse", "Sound", "TooMany", "Unsound"]
def plain : List Str := plain0 ++ plain1
/-- the class's order of asking: itself, PageError, the built-in ones -/
def mroB (K : PySem.W.Frag) (P C : Addr) : Bool := match K.lookup C with
  | some ⟨.type "type", _, .cls cd, _⟩ => decide (cd.mro = .ref C :: .ref P :: veBase)
  | _ => false
def pageB (K : PySem.W.Frag) : Bool := (PySem.W.clsIn K (ga K "PageError")).isSome && decide (PySem.W.typeIn K (.ref (ga K "PageError")) = some (.type "type"))
def chk (K : PySem.W.Frag) : Bool := (errs.all fun x => mroB K (ga K "PageError") (ga K x) && excB K (ga K x)) && ((plain.all fun x => (Fa.exc x).ok K) && (pageB K && decide (((("PageError" : Str) :: errs).map (ga K)).Nodup)))
def sx : Sx := ⟨glos, frees, defs, sups, fun _ => true⟩
def sy : Sx := ⟨[], [], [], [], chk⟩
end K24

set_option maxHeartbeats 0
namespace K24
open PySem PySem.Spec PyProof.Rows L2 He Sa
abbrev R : PySem.W.OpenRow := PySem.W.OpenLaw.row PySem.Challenge.rw_saidandasked_k24_errors_made_and_bases
theorem run1 (w : World) (os : OsState) : (endQ R 20000 w os).map (fun s => (HandSHeadRun.looksF R.prog (PySem.W.boot_heap w.params) s.abs, HandSHeadRun.seenQ (PySem.W.view R.prog [lawAt]) loose (importedModules R.prog.main.body) (fun s => PySem.W.xlAt (PySem.W.view R.prog [lawAt]) [] s && PySem.W.recOk R.toRowW.records s) s.abs)) = some (true, PySem.W.openGood (PySem.W.view R.prog [lawAt]) loose) := by
  kernel_rfl
theorem run2 (w : World) (os : OsState) : (endQ R 20000 w os).map (fun s => obsSG 4 sx (HandSHeadRun.getT s)) = some (valS sx) := by
  kernel_rfl
theorem run3 (w : World) (os : OsState) : (endQ R 20000 w os).map (fun s => obsSG 4 sy (HandSHeadRun.getT s)) = some (valS sy) := by
  kernel_rfl
theorem run (w : World) : HandSHeadRun.RunEq R (PySem.W.view R.prog [lawAt]) (hookP 4 sx sy) (obP 4 sx sy) 20000 loose w := run_split (run1 w) (run2 w) (run3 w)
end K24

set_option maxHeartbeats 4000000
/-! The source of draws: a dict of four fields. -/
namespace Sa
open PySem PySem.Spec PyProof.Rows L2
def dk (aw ac : Addr) (rest turn : Int) : List (Key × V) := [(Sum.inr "wide", .ref aw), (Sum.inr "cells", .ref ac), (Sum.inr "rest", .int rest), (Sum.inr "turn", .int turn)]
section
variable {aw ac : Addr} {r t u : Int}
theorem dk_wide : valV (dk aw ac r t) (Sum.inr "wide") = some (.ref aw) := by kernel_rfl
theorem dk_cells : valV (dk aw ac r t) (Sum.inr "cells") = some (.ref ac) := by kernel_rfl
theorem dk_rest : valV (dk aw ac r t) (Sum.inr "rest") = some (.int r) := by kernel_rfl
theorem dk_turn : valV (dk aw ac r t) (Sum.inr "turn") = some (.int t) := by kernel_rfl
theorem put_rest : putK (dk aw ac r t) (Sum.inr "rest") (.int u) = dk aw ac u t := by kernel_rfl
theorem put_turn : putK (dk aw ac r t) (Sum.inr "turn") (.int u) = dk aw ac r u := by kernel_rfl
theorem dk_merge : mergeK [] (dk aw ac r t) = dk aw ac r t := by kernel_rfl
variable {H : Hp} {d : Addr}
theorem get_wide (h : H d = some (.dK (dk aw ac r t))) : DGet H d (.str "wide") (some (.ref aw)) := by
  rw [← dk_wide (r := r) (t := t)]
  exact DGet.k (k := Sum.inr "wide") h
theorem get_cells (h : H d = some (.dK (dk aw ac r t))) : DGet H d (.str "cells") (some (.ref ac)) := by
  rw [← dk_cells (r := r) (t := t)]
  exact DGet.k (k := Sum.inr "cells") h
theorem get_rest (h : H d = some (.dK (dk aw ac r t))) : DGet H d (.str "rest") (some (.int r)) := by
  rw [← dk_rest (aw := aw) (ac := ac) (r := r) (t := t)]
  exact DGet.k (k := Sum.inr "rest") h
theorem get_turn (h : H d = some (.dK (dk aw ac r t))) : DGet H d (.str "turn") (some (.int t)) := by
  rw [← dk_turn (aw := aw) (ac := ac) (r := r) (t := t)]
  exact DGet.k (k := Sum.inr "turn") h
theorem set_rest (h : H d = some (.dK (dk aw ac r t))) (u : Int) : DPut H d (.str "rest") (.int u) (upd H d (.dK (dk aw ac u t))) := by
  rw [← put_rest (r := r)]
  exact DPut.k (k := Sum.inr "rest") h (by show 4 < sizeLine; decide)
theorem set_turn (h : H d = some (.dK (dk aw ac r t))) (u : Int) : DPut H d (.str "turn") (.int u) (upd H d (.dK (dk aw ac r u))) := by
  rw [← put_turn (t := t)]
  exact DPut.k (k := Sum.inr "turn") h (by show 4 < sizeLine; decide)
end
/-- all that was tracked but at d, aw is as it was -/
def Keep (d aw : Addr) (H H' : Hp) : Prop := ∀ b o, H b = some o → b ≠ d → b ≠ aw → H' b = some o
theorem Keep.refl (d aw : Addr) (H : Hp) : Keep d aw H H := fun _ _ h _ _ => h
theorem Keep.trans {d aw : Addr} {H H1 H2 : Hp} (a : Keep d aw H H1) (b : Keep d aw H1 H2) : Keep d aw H H2 := fun c o h h1 h2 => b c o (a c o h h1 h2) h1 h2
theorem Same.keep {d aw : Addr} {H H' : Hp} (s : Same H H') : Keep d aw H H' := fun b o h _ _ => s b o h
theorem Keep.new {d aw p : Addr} {H H' : Hp} {o : HO} (k : Keep d aw H H') (h : H' p = none) : Keep d aw H (upd H' p o) := fun b u e h1 h2 => by
  have z := k b u e h1 h2
  rw [upd_ne (ne_of_none z h)]
  exact z
theorem Same.new {p : Addr} {H : Hp} {o : HO} (h : H p = none) : Same H (upd H p o) := fun b u e => by
  rw [upd_ne (ne_of_none e h)]
  exact e
theorem Keep.seqL {K : PySem.W.Frag} {d aw a : Addr} {H H' : Hp} {xs : List V} (k : Keep d aw H H') (h : SqL K H a xs) (h1 : a ≠ d) (h2 : a ≠ aw) : SqL K H' a xs := by
  rcases h with (h | ⟨o, h⟩) | h
  · exact .inl (.inl (k _ _ h h1 h2))
  · exact .inl (.inr ⟨o, k _ _ h h1 h2⟩)
  · exact .inr h
theorem Keep.seqT {K : PySem.W.Frag} {d aw a : Addr} {H H' : Hp} {xs : List V} (k : Keep d aw H H') (h : SqT K H a xs) (h1 : a ≠ d) (h2 : a ≠ aw) : SqT K H' a xs := by
  rcases h with (h | ⟨o, h⟩) | h
  · exact .inl (.inl (k _ _ h h1 h2))
  · exact .inl (.inr ⟨o, k _ _ h h1 h2⟩)
  · exact .inr h
theorem Same.seqT {K : PySem.W.Frag} {a : Addr} {H H' : Hp} {xs : List V} (k : Same H H') (h : SqT K H a xs) : SqT K H' a xs := by
  rcases h with (h | ⟨o, h⟩) | h
  · exact .inl (.inl (k _ _ h))
  · exact .inl (.inr ⟨o, k _ _ h⟩)
  · exact .inr h
/-- the source stands at d, its wide numbers at aw, its cells at ac; it has turned at most n times -/
structure Draw (H : Hp) (d aw ac : Addr) (n : Int) : Prop where
  ne : aw ≠ ac
  ex : ∃ (wide cells : List Int) (rest turn : Int), H d = some (.dK (dk aw ac rest turn)) ∧ H aw = some (.lst (wide.map V.int)) ∧ H ac = some (.lst (cells.map V.int)) ∧
    wide.length ≤ 63 ∧ cells.length ≤ 63 ∧ (∀ x ∈ cells, 0 ≤ x ∧ x < 2147483629) ∧ 0 ≤ turn ∧ turn ≤ n
theorem Draw.mono {H : Hp} {d aw ac : Addr} {n m : Int} (D : Draw H d aw ac n) (h : n ≤ m) : Draw H d aw ac m := by
  obtain ⟨ne, w, c, r, t, h1, h2, h3, h4, h5, h6, h7, h8⟩ := D
  exact ⟨ne, w, c, r, t, h1, h2, h3, h4, h5, h6, h7, by omega⟩
theorem Draw.same {H H' : Hp} {d aw ac : Addr} {n : Int} (D : Draw H d aw ac n) (s : Same H H') : Draw H' d aw ac n := by
  obtain ⟨ne, w, c, r, t, h1, h2, h3, h⟩ := D
  exact ⟨ne, w, c, r, t, s _ _ h1, s _ _ h2, s _ _ h3, h⟩
/-- a tracked thing that is neither the source nor its wide numbers: told by its kind -/
theorem Draw.ned {H : Hp} {d aw ac a : Addr} {n : Int} {o : HO} (D : Draw H d aw ac n) (h : H a = some o) (hk : ∀ kvs, o ≠ .dK kvs) : a ≠ d := by
  obtain ⟨_, w, c, r, t, h1, _⟩ := D
  exact ne_of h h1 (hk _)
theorem Draw.neT {H : Hp} {d aw ac a : Addr} {n : Int} {o : HO} (D : Draw H d aw ac n) (h : H a = some o) (hk : ∀ xs, o ≠ .lst xs) : a ≠ aw := by
  obtain ⟨_, w, c, r, t, _, h2, _⟩ := D
  exact ne_of h h2 (hk _)
end Sa

set_option maxHeartbeats 4000000
namespace K24
open PySem PySem.Spec PyProof.Rows L2 He Sa
theorem ifT {A B : Prop} (h : A) : if (true : Bool) = true then A else B := h
section
variable {P : Program} {w : World} {K : PySem.W.Frag} {mg : Str → Option Value} {base : Heap}
/-! ### the source of draws -/
abbrev Nbegun : List Str := ["_law_script", "_law_wide", "_law_grain"]
theorem scbegun : FnScope Nbegun ["_law_script"] (defScope sbegun) := ⟨rfl, rfl, rfl, by decide +kernel, rfl, by decide +kernel, by decide +kernel⟩
def spBegun (K : PySem.W.Frag) : Sp := fun vs H Q _ => ∃ (a : Addr) (ns : List Int), vs = [.ref a] ∧ SqL K H a (ns.map V.int) ∧ ns.length ≤ 63 ∧
  ∀ H' d aw ac, Same H H' → H d = none → H aw = none → H ac = none → Draw H' d aw ac 0 → Q (.ref d) H'
theorem c_begun (T : Tx sx K mg) : Cal P w K mg base "_law_begun" 1 ["_law_script"] (spBegun K) := by
  refine T.cal 0 rfl (by decide +kernel) scbegun (fun vs H Q E h => ?_) (fun _ _ _ _ _ _ us hl => match us, hl with | [_], _ => rfl) (fun cdv A outer s H vs Q E hr h => ?_)
  · obtain ⟨a, ns, rfl, _⟩ := h
    rfl
  · obtain ⟨a, ns, rfl, hS, hlen, k⟩ := h
    refine ⟨_, (pss_cons (ps_setLc (i := 1) (own := [("_law_grain", 2)]) (g := gName 2) rfl scbegun.nd rfl rfl (sw_true rfl rfl rfl (by decide +kernel)) (pi_list (pv 0)) (blkOk_by (N := Nbegun) (sc := defScope sbegun) (by decide +kernel)) (fun _ _ _ _ _ => (pg_name (i := 2) scbegun.nd rfl (Or.inl rfl))) (fun _ _ _ _ _ => (pts_one (pt_cmpR op_ge (pe_callB call_abs (by rfl) (T.free "abs") (by decide +kernel) (pa_cons (pv 2) pa_nil)) (pe_op op_pow pe_int pe_int) (nomark _)))) (fun _ _ _ _ _ => (pe_op op_sub (pe_callB call_abs (by rfl) (T.free "abs") (by decide +kernel) (pa_cons (pv 2) pa_nil)) (pe_op op_pow pe_int pe_int))))
    (pss_one (ps_ret (pe_disp (pps_cons pe_str (pv 1) (pps_cons pe_str (pe_lc (own := [("_law_grain", 2)]) (g := gName 2) (tt := tYes) rfl scbegun.nd (pi_list (pv 0)) (blkOk_by (N := Nbegun) (sc := defScope sbegun) (by decide +kernel)) (fun _ _ _ _ _ => (pg_name (i := 2) scbegun.nd rfl (Or.inl rfl))) (fun _ _ _ _ _ => pts_nil) (fun _ _ _ _ _ => (pe_op op_modN (pe_callTy call_int1 (by rfl) (T.free "int") (by decide +kernel) (pa_cons (pe_callB call_abs (by rfl) (T.free "abs") (by decide +kernel) (pa_cons (pv 2) pa_nil)) pa_nil)) pe_int))) (pps_cons pe_str pe_int (pps_cons pe_str pe_int pps_nil)))) (by rfl) (by rfl) (fun z => by cases z) (by decide))))), ?_⟩
    refine ⟨_, rfl, a, rfl, ⟨_, hS⟩, fun D nD => lc_list (K := K) (a := a) (xs := ns.map V.int) (fun i H' => ∃ ws : List Int, ws.length ≤ i ∧ H' D = some (.lst (ws.map V.int)) ∧ Same H H') ⟨[], Nat.le_refl _, upd_same, Same.new nD⟩ (fun i H' _ ⟨_, _, _, s1⟩ => s1.seq hS) ?_ ?_⟩
    · rintro i x H1 hi ⟨ws, hw, hD, s1⟩
      obtain ⟨z, rfl⟩ : ∃ z, x = V.int z := by
        obtain ⟨z, _, e⟩ := List.mem_map.mp (List.mem_of_getElem? hi)
        exact ⟨z, e.symm⟩
      have hil : i < 63 := by
        have := (List.getElem?_eq_some_iff.mp hi).1
        rw [List.length_map] at this
        omega
      refine ⟨rfl, _, rfl, _, rfl, _, _, rfl, rfl, ⟨by decide, by decide, by decide⟩, _, _, rfl, rfl, _, rfl, ?_⟩
      refine ite2 (fun _ => ?_) (fun _ => ?_)
      · refine ⟨_, rfl, _, rfl, _, _, rfl, rfl, ⟨by decide, by decide, by decide⟩, _, _, rfl, rfl, _, hD, ?_, ws ++ [(if z < 0 then -z else z) - 10 ^ Int.toNat 18], ?_, ?_, ?_⟩
        · rw [List.length_map]
          exact small1000 (by omega)
        · rw [List.length_append]
          show ws.length + 1 ≤ i + 1
          omega
        · rw [upd_same, List.map_append]
          rfl
        · exact fun b o e => by
            rw [upd_ne (ne_of_none e nD)]
            exact s1 b o e
      · exact ⟨ws, by omega, hD, s1⟩
    · rintro H1 ⟨ws, hw, hD, s1⟩
      rw [List.length_map] at hw
      intro d nd
      have s2 : Same H (upd H1 d (.dK [])) := s1.trans (Same.new nd)
      have nDd : D ≠ d := ne_of_none hD nd
      refine ⟨_, rfl, _, rfl, a, rfl, ⟨_, s2.seq hS⟩, fun C nC => ?_⟩
      have nCd : d ≠ C := ne_of_none upd_same nC
      have nCD : D ≠ C := ne_of_none (by rw [upd_ne nDd]; exact hD) nC
      refine lc_list (K := K) (a := a) (xs := ns.map V.int) (fun i H' => ∃ cs : List Int, cs.length = i ∧ (∀ x ∈ cs, 0 ≤ x ∧ x < 2147483629) ∧ H' C = some (.lst (cs.map V.int)) ∧ H' D = some (.lst (ws.map V.int)) ∧ H' d = some (.dK []) ∧ Same H H')
        ⟨[], rfl, fun _ h => (nomatch h), upd_same, by rw [upd_ne nCD, upd_ne nDd]; exact hD, by rw [upd_ne nCd, upd_same], s2.trans (Same.new nC)⟩ (fun i H' _ ⟨_, _, _, _, _, _, s3⟩ => s3.seq hS) ?_ ?_
      · rintro i x H3 hi ⟨cs, hc, hb, hC, hD3, hd3, s3⟩
        obtain ⟨z, rfl⟩ : ∃ z, x = V.int z := by
          obtain ⟨z, _, e⟩ := List.mem_map.mp (List.mem_of_getElem? hi)
          exact ⟨z, e.symm⟩
        have hil : i < 63 := by
          have := (List.getElem?_eq_some_iff.mp hi).1
          rw [List.length_map] at this
          omega
        have nCH : H C = none := Same.free s2 nC
        refine ⟨rfl, ?_⟩
        delta tYes
        refine ifT ?_
        refine ⟨_, rfl, _, rfl, .inl ⟨_, rfl, _, _, rfl, rfl, (by show (2147483629 : Int) ≠ 0; decide), _, hC, ?_, cs ++ [((if z < 0 then -z else z) : Int).fmod 2147483629], ?_, ?_, ?_, ?_, ?_, ?_⟩⟩
        · rw [List.length_map]
          exact small1000 (by omega)
        · rw [List.length_append, hc]
          rfl
        · intro x hx
          rcases List.mem_append.mp hx with hx | hx
          · exact hb x hx
          · obtain rfl := List.mem_singleton.mp hx
            rw [Int.fmod_eq_emod_of_nonneg _ (by decide)]
            exact ⟨Int.emod_nonneg _ (by decide), Int.emod_lt_of_pos _ (by decide)⟩
        · rw [upd_same, List.map_append]
          rfl
        · rw [upd_ne nCD]
          exact hD3
        · rw [upd_ne nCd]
          exact hd3
        · exact fun b o e => by
            rw [upd_ne (ne_of_none e nCH)]
            exact s3 b o e
      · rintro H3 ⟨cs, hc, hb, hC, hD3, hd3, s3⟩
        rw [List.length_map] at hc
        refine ⟨hd3, dk D C 0 0, rfl, (by show 4 ≤ 15; decide), ?_⟩
        have nDH : H D = none := nD
        refine k _ d D C (fun b o e => ?_) (Same.free s1 nd) nDH (Same.free s2 nC) ⟨nCD, ws, cs, 0, 0, by rw [upd_same, dk_merge], ?_, ?_, by omega, by omega, hb, by decide, by decide⟩
        · rw [upd_ne (ne_of_none e (Same.free s1 nd))]
          exact s3 b o e
        · rw [upd_ne nDd]
          exact hD3
        · rw [upd_ne nCd.symm]
          exact hC
end
end K24

set_option maxHeartbeats 4000000
namespace K24
open PySem PySem.Spec PyProof.Rows L2 He Sa
section
variable {P : Program} {w : World} {K : PySem.W.Frag} {mg : Str → Option Value} {base : Heap}
abbrev Nmixed : List Str := ["_law_draw", "_law_turn", "_law_found", "_law_prime", "_law_blend", "_law_grain"]
theorem scmixed : FnScope Nmixed ["_law_draw"] (defScope smixed) := ⟨rfl, rfl, rfl, by decide +kernel, rfl, by decide +kernel, by decide +kernel⟩
def spMixed : Sp := fun vs H Q _ => ∃ (d aw ac : Addr) (n : Int), vs = [.ref d] ∧ Draw H d aw ac n ∧ n < 1000000000000 ∧ ∀ (r : Int) H', Keep d aw H H' → Draw H' d aw ac (n + 1) → Q (.int r) H'
theorem c_mixed (T : Tx sx K mg) : Cal P w K mg base "_law_mixed" 1 ["_law_draw"] spMixed := by
  refine T.cal 1 rfl (by decide +kernel) scmixed (fun vs H Q E h => ?_) (fun _ _ _ _ _ _ us hl => match us, hl with | [_], _ => rfl) (fun cdv A outer s H vs Q E hr h => ?_)
  · obtain ⟨d, aw, ac, n, rfl, _⟩ := h
    rfl
  · obtain ⟨d, aw, ac, n, rfl, ⟨hne, wide, cells, rest, turn, h1, h2, h3, h4, h5, h6, h7, h8⟩, hn, k⟩ := h
    have hu := hu_of hr
    refine ⟨_, (pss_cons (ps_par (i := 1) (j := 2) (by rfl) scmixed.nd rfl rfl (by decide) rfl rfl (pa_cons (pe_op op_add (pe_dget hu (pv 0) pe_str (fun _ _ => rfl)) pe_int) (pa_cons pe_int pa_nil)) (by rfl))
    (pss_cons (ps_dput hu (pv 0) pe_str (pv 1) rfl)
    (pss_cons (ps_for PassesOwn.never rfl (pi_list (pe_lst (pa_cons pe_int (pa_cons pe_int (pa_cons pe_int (pa_cons pe_int pa_nil)))))) (pg_name (i := 3) scmixed.nd rfl (Or.inl rfl)) (pss_cons (ps_set (i := 4) scmixed.nd rfl (Or.inl rfl) (pe_op op_add (pe_op op_mul pe_int (pv 1)) (pe_op op_fdivN (pv 3) pe_int)))
    (pss_cons (ps_for PassesOwn.never rfl (pi_list (pe_dget hu (pv 0) pe_str (fun _ _ => rfl))) (pg_name (i := 5) scmixed.nd rfl (Or.inl rfl)) (pss_one (ps_set (i := 4) scmixed.nd rfl (Or.inl rfl) (pe_op op_modN (pe_callTy call_int1 (by rfl) (T.free "int") (by decide +kernel) (pa_cons (pe_op op_add (pe_op op_add (pe_op op_mul (pv 4) pe_int) (pv 5)) (pv 1)) pa_nil)) (pv 3)))))
    (pss_one (ps_set (i := 2) scmixed.nd rfl (Or.inl rfl) (pe_op op_add (pe_op op_mul (pv 2) pe_int) (pe_op op_modN (pe_callTy call_int1 (by rfl) (T.free "int") (by decide +kernel) (pa_cons (pe_op op_pow (pv 4) pe_int) pa_nil)) (pv 3))))))))
    (pss_one (ps_ret (pv 2)))))), ?_⟩
    have nda : aw ≠ d := ne_of h2 h1 (fun e => by cases e)
    have ndc : ac ≠ d := ne_of h3 h1 (fun e => by cases e)
    refine ⟨_, rfl, d, _, rfl, get_turn h1, _, _, rfl, rfl, _, _, rfl, ?_⟩
    refine ⟨_, rfl, _, rfl, d, _, rfl, set_turn h1 _, ?_⟩
    refine ⟨small1000 (by show 3 ≤ 1000; decide), fun p hp => ?_⟩
    have npd : d ≠ p := ne_of_none upd_same hp
    have npa : aw ≠ p := ne_of_none (by rw [upd_ne nda]; exact h2) hp
    have npc : ac ≠ p := ne_of_none (by rw [upd_ne ndc]; exact h3) hp
    refine ⟨p, rfl, ⟨_, .inl (.inl upd_same)⟩, ?_⟩
    have hd2 : (upd (upd H d (.dK (dk aw ac rest (turn + 1)))) p (.lst [V.int 2147483647, V.int 2147483629, V.int 2147483587, V.int 2147483579])) d = some (.dK (dk aw ac rest (turn + 1))) := by rw [upd_ne npd, upd_same]
    have ha2 : (upd (upd H d (.dK (dk aw ac rest (turn + 1)))) p (.lst [V.int 2147483647, V.int 2147483629, V.int 2147483587, V.int 2147483579])) aw = some (.lst (wide.map V.int)) := by rw [upd_ne npa, upd_ne nda]; exact h2
    have hc2 : (upd (upd H d (.dK (dk aw ac rest (turn + 1)))) p (.lst [V.int 2147483647, V.int 2147483629, V.int 2147483587, V.int 2147483579])) ac = some (.lst (cells.map V.int)) := by rw [upd_ne npc, upd_ne ndc]; exact h3
    have hk2 : Keep d aw H (upd (upd H d (.dK (dk aw ac rest (turn + 1)))) p (.lst [V.int 2147483647, V.int 2147483629, V.int 2147483587, V.int 2147483579])) := fun b o e n1 n2 => by
      rw [upd_ne (ne_of_none (by rw [upd_ne n1]; exact e) hp), upd_ne n1]
      exact e
    have hp2 : (upd (upd H d (.dK (dk aw ac rest (turn + 1)))) p (.lst [V.int 2147483647, V.int 2147483629, V.int 2147483587, V.int 2147483579])) p = some (.lst [V.int 2147483647, V.int 2147483629, V.int 2147483587, V.int 2147483579]) := upd_same
    generalize (upd (upd H d (.dK (dk aw ac rest (turn + 1)))) p (.lst [V.int 2147483647, V.int 2147483629, V.int 2147483587, V.int 2147483579])) = H2 at *
    refine for_list (K := K) (a := p) (xs := [V.int 2147483647, V.int 2147483629, V.int 2147483587, V.int 2147483579]) (fun _ σ H' => H' = H2 ∧ ∃ (f : Int) (x y z : Option V), σ = [some (.ref d), some (.int (turn + 1)), some (.int f), x, y, z]) ⟨rfl, 0, none, none, none, rfl⟩ (fun i σ H' _ h => by rw [h.1]; exact .inl (.inl hp2)) ?_ ?_
    · rintro i pv' σ H' hi ⟨rfl, f, x, y, z, rfl⟩
      obtain ⟨q, rfl, hq1, hq2⟩ : ∃ q : Int, pv' = V.int q ∧ 0 < q ∧ q < 2147483648 := by
        rcases i with _ | _ | _ | _ | i
        · exact ⟨_, (Option.some.inj hi).symm, by decide, by decide⟩
        · exact ⟨_, (Option.some.inj hi).symm, by decide, by decide⟩
        · exact ⟨_, (Option.some.inj hi).symm, by decide, by decide⟩
        · exact ⟨_, (Option.some.inj hi).symm, by decide, by decide⟩
        · exact absurd hi (by simp)
      refine ⟨_, rfl, _, _, rfl, rfl, .inl ⟨by decide, by decide⟩, _, rfl, _, _, rfl, rfl, ⟨by decide, by decide⟩, _, _, rfl, rfl, ?_⟩
      refine ⟨_, rfl, d, _, rfl, get_cells hd2, ac, rfl, ⟨_, .inl (.inl hc2)⟩, ?_⟩
      refine for_list (K := K) (a := ac) (xs := cells.map V.int) (fun _ σ H2' => H2' = H' ∧ ∃ (b : Int) (z : Option V), (0 ≤ b ∧ b < 100000000000000000) ∧ σ = [some (.ref d), some (.int (turn + 1)), some (.int f), some (.int q), some (.int b), z]) ⟨rfl, 48271 * (turn + 1) + Int.fdiv q 37, z, ?_, rfl⟩ (fun i σ H' _ h => by rw [h.1]; exact .inl (.inl hc2)) ?_ ?_
      · rw [Int.fdiv_eq_ediv_of_nonneg _ (by decide)]
        omega
      · rintro i c σ H3 hi ⟨rfl, b, z, hb, rfl⟩
        obtain ⟨c, rfl⟩ : ∃ z, c = V.int z := by
          obtain ⟨z, _, e⟩ := List.mem_map.mp (List.mem_of_getElem? hi)
          exact ⟨z, e.symm⟩
        refine ⟨_, rfl, _, _, rfl, rfl, .inr ⟨by decide, by decide⟩, _, rfl, _, _, rfl, rfl, _, rfl, _, _, rfl, rfl, .inl ⟨_, rfl, _, rfl, _, _, rfl, rfl, (by show q ≠ 0; omega), ?_⟩⟩
        refine ⟨rfl, _, _, ?_, rfl⟩
        show 0 ≤ Int.fmod (b * 69621 + c + (turn + 1)) q ∧ Int.fmod (b * 69621 + c + (turn + 1)) q < _
        rw [Int.fmod_eq_emod_of_nonneg _ (by omega)]
        have := Int.emod_nonneg (b * 69621 + c + (turn + 1)) (b := q) (by omega)
        have := Int.emod_lt_of_pos (b * 69621 + c + (turn + 1)) hq1
        omega
      · rintro σ H3 ⟨rfl, b, z, hb, rfl⟩
        refine ⟨_, rfl, _, _, rfl, rfl, .inr ⟨by decide, by decide⟩, _, rfl, _, _, rfl, rfl, ⟨by decide, by decide, ?_⟩, .inl ⟨_, rfl, _, rfl, _, _, rfl, rfl, (by show q ≠ 0; omega), _, _, rfl, rfl, ?_⟩⟩
        · show b.natAbs < 2 ^ 64
          omega
        · exact ⟨rfl, _, _, _, _, rfl⟩
    · rintro σ H' ⟨rfl, f, x, y, z, rfl⟩
      exact ⟨_, rfl, k f _ hk2 ⟨hne, wide, cells, rest, turn + 1, hd2, ha2, hc2, h4, h5, h6, by omega, by omega⟩⟩
end
end K24

set_option maxHeartbeats 4000000
namespace Sa
open PySem PySem.Spec PyProof.Rows L2
theorem ints_canLay : ∀ ns : List Int, PyData.canLayAll0 (ns.map PyData.int) = true
  | [] => rfl
  | _ :: ns => ints_canLay ns
theorem ints_depth : ∀ ns : List Int, PyData.depthAll (ns.map PyData.int) = 0
  | [] => rfl
  | _ :: ns => by
    show max 0 (PyData.depthAll (ns.map PyData.int)) = 0
    rw [ints_depth ns]
    rfl
theorem ints_shaped (ns : List Int) : SeqAt.shaped (.list (ns.map PyData.int)) = true := by
  have h2 : decide (PyData.depthAll (ns.map PyData.int) + 1 ≤ 64) = true := by
    rw [ints_depth]
    rfl
  show (PyData.canLayAll0 (ns.map PyData.int) && decide (PyData.depthAll (ns.map PyData.int) + 1 ≤ 64)) = true
  rw [ints_canLay, h2]
  rfl
theorem ints_dp {K : PySem.W.Frag} {H : Hp} : ∀ ns : List Int, DpAll K H (ns.map V.int) (ns.map PyData.int)
  | [] => .nil
  | _ :: ns => .cons (.int _) (ints_dp ns)
theorem ints_eqv_nil : ∀ ns : List Int, PyData.eqv (.list (ns.map PyData.int)) (.list []) = ns.isEmpty
  | [] => rfl
  | _ :: _ => rfl
end Sa
namespace K24
open PySem PySem.Spec PyProof.Rows L2 He Sa
section
variable {P : Program} {w : World} {K : PySem.W.Frag} {mg : Str → Option Value} {base : Heap}
abbrev Ntake : List Str := ["_law_draw", "_law_many", "_law_found"]
theorem sctake : FnScope Ntake ["_law_draw", "_law_many"] (defScope stake) := ⟨rfl, rfl, rfl, by decide +kernel, rfl, by decide +kernel, by decide +kernel⟩
def spTake : Sp := fun vs H Q _ => ∃ (d aw ac : Addr) (n m : Int), vs = [.ref d, .int m] ∧ Draw H d aw ac n ∧ n < 1000000000000 ∧ (0 < m ∧ m < 1073741824) ∧
  ∀ (r : Int) H', 0 ≤ r → r < m → Keep d aw H H' → Draw H' d aw ac (n + 1) → Q (.int r) H'
theorem c_take (T : Tx sx K mg) : Cal P w K mg base "_law_take" 2 ["_law_draw", "_law_many"] spTake := by
  refine T.cal 2 rfl (by decide +kernel) sctake (fun vs H Q E h => ?_) (fun _ _ _ _ _ _ us hl => match us, hl with | [_, _], _ => rfl) (fun cdv A outer s H vs Q E hr h => ?_)
  · obtain ⟨d, aw, ac, n, m, rfl, _⟩ := h
    rfl
  · obtain ⟨d, aw, ac, n, m, rfl, D, hn, hm, k⟩ := h
    obtain ⟨hne, wide, cells, rest, turn, h1, h2, h3, h4, h5, h6, h7, h8⟩ := D
    have hu := hu_of hr
    refine ⟨_, (pss_cons (ps_if (pt_cmpR op_eq (pe_dget hu (pv 0) pe_str (fun _ _ => rfl)) pe_int (nomark _)) (pss_one (ps_dput hu (pv 0) pe_str (pe_ifExp (pt_cmpR (op_neD hr.units) (pe_dget hu (pv 0) pe_str (fun _ _ => rfl)) (pe_lst pa_nil) (nomark _)) (pe_bm PySem.F.plainAttrs_list PySem.F.slot_list_pop PySem.F.type_list_pop mt_popAt (pe_dget hu (pv 0) pe_str (fun _ _ => rfl)) (pa_cons pe_int pa_nil)) (pe_cal (c_mixed T) hr (pa_cons (pv 0) pa_nil))) rfl)) pss_nil)
    (pss_cons (ps_set (i := 2) sctake.nd rfl (Or.inl rfl) (pe_op op_modN (pe_callTy call_int1 (by rfl) (T.free "int") (by decide +kernel) (pa_cons (pe_dget hu (pv 0) pe_str (fun _ _ => rfl)) pa_nil)) (pv 1)))
    (pss_cons (ps_dput hu (pv 0) pe_str (pe_op op_fdivN (pe_dget hu (pv 0) pe_str (fun _ _ => rfl)) (pv 1)) rfl)
    (pss_one (ps_ret (pv 2)))))), ?_⟩
    have nda : aw ≠ d := ne_of h2 h1 (fun e => by cases e)
    have ndc : ac ≠ d := ne_of h3 h1 (fun e => by cases e)
    have tail : ∀ H', Draw H' d aw ac (n + 1) → Keep d aw H H' →
        (tSeq (tAsg (tOp (rI (fun _ j => j ≠ 0) fun i j => V.int (i.fmod j)) (tCB (fun xs H Q => (∃ i, xs = [V.int i] ∧ Q (V.int i) H) ∨ ∃ k, xs = [V.bl k] ∧ Q (V.int (if k = true then 1 else 0)) H) (tCons (tDGet (tVar 0) (tC (V.str "rest"))) tNil)) (tVar 1)) (gName 2))
          (tSeq (sDPut (tVar 0) (tC (V.str "rest")) (tOp (rI CDivN fun i j => V.int (i.fdiv j)) (tDGet (tVar 0) (tC (V.str "rest"))) (tVar 1))) (tRet (tVar 2)))) { nx := fun _ H' => Q .non H', rt := Q } (start Ntake [V.ref d, V.int m]) H' := by
      intro H' DD KK
      obtain ⟨_, wide', cells', rest', turn', e1, e2, e3, e4, e5, e6, e7, e8⟩ := DD
      refine ⟨_, rfl, d, _, rfl, get_rest e1, .inl ⟨_, rfl, _, rfl, _, _, rfl, rfl, (by show m ≠ 0; omega), ?_⟩⟩
      refine ⟨_, rfl, d, _, rfl, get_rest e1, _, rfl, _, _, rfl, rfl, ⟨by show m ≠ 0; omega, by show m.natAbs < 1073741824; omega⟩, ?_⟩
      refine ⟨_, rfl, d, _, rfl, set_rest e1 _, _, rfl, ?_⟩
      refine k _ _ ?_ ?_ ?_ ?_
      · rw [Int.fmod_eq_emod_of_nonneg _ (by omega)]
        exact Int.emod_nonneg _ (by omega)
      · rw [Int.fmod_eq_emod_of_nonneg _ (by omega)]
        exact Int.emod_lt_of_pos _ (by omega)
      · exact fun b o e n1 n2 => by
          rw [upd_ne n1]
          exact KK b o e n1 n2
      · exact ⟨hne, wide', cells', _, turn', upd_same, by rw [upd_ne nda]; exact e2, by rw [upd_ne ndc]; exact e3, e4, e5, e6, e7, e8⟩
    refine ⟨_, rfl, d, _, rfl, get_rest h1, rfl, _, rfl, ?_⟩
    refine ite2 (fun _ => ?_) (fun _ => ?_)
    · refine ⟨_, rfl, d, _, rfl, get_wide h1, Nat.zero_le _, fun p hp => ?_⟩
      have npd : d ≠ p := ne_of_none h1 hp
      have npa : aw ≠ p := ne_of_none h2 hp
      have npc : ac ≠ p := ne_of_none h3 hp
      have D1 : Draw (upd H p (.lst [])) d aw ac n := ⟨hne, wide, cells, rest, turn, by rw [upd_ne npd]; exact h1, by rw [upd_ne npa]; exact h2, by rw [upd_ne npc]; exact h3, h4, h5, h6, h7, h8⟩
      have K1 : Keep d aw H (upd H p (.lst [])) := Same.keep (Same.new hp)
      have hp1 : upd H p (.lst []) p = some (.lst []) := upd_same
      have h1' : upd H p (.lst []) d = some (.dK (dk aw ac rest turn)) := by rw [upd_ne npd]; exact h1
      have h2' : upd H p (.lst []) aw = some (.lst (wide.map V.int)) := by rw [upd_ne npa]; exact h2
      have h3' : upd H p (.lst []) ac = some (.lst (cells.map V.int)) := by rw [upd_ne npc]; exact h3
      generalize upd H p (.lst []) = H1 at *
      refine ⟨_, _, .lst (.inl (.inl h2')) (ints_dp wide), .lst (.inl (.inl hp1)) .nil, ints_shaped wide, by decide +kernel, _, rfl, ?_⟩
      refine ite2 (fun hw => ?_) (fun _ => ?_)
      · rw [ints_eqv_nil] at hw
        obtain ⟨x, xs, rfl⟩ : ∃ x xs, wide = x :: xs := by
          cases wide with
          | nil => cases hw
          | cons x xs => exact ⟨x, xs, rfl⟩
        refine ⟨_, rfl, d, _, rfl, get_wide h1', (Or.inl ⟨rfl, _, .inl (.inl h2')⟩), aw, _, 0, 0, _, rfl, rfl, h2', by decide, by decide, ?_, rfl, ?_⟩
        · show (if (0 : Int) ≤ 0 && (0 : Int) < ((List.map V.int (x :: xs)).length : Nat) then some (0 : Int).toNat else none) = some 0
          rw [if_pos (by rw [List.length_map]; show (true && decide _) = true; rw [Bool.true_and]; exact decide_eq_true (by show (0 : Int) < ((xs.length + 1 : Nat) : Int); omega))]
          rfl
        · have e1 : upd H1 aw (.lst (xs.map V.int)) d = some (.dK (dk aw ac rest turn)) := by rw [upd_ne nda.symm]; exact h1'
          refine ⟨_, rfl, d, _, rfl, set_rest e1 x, ?_⟩
          have D2 : Draw (upd (upd H1 aw (.lst (xs.map V.int))) d (.dK (dk aw ac x turn))) d aw ac n := ⟨hne, xs, cells, x, turn, upd_same, by rw [upd_ne nda]; exact upd_same, by rw [upd_ne ndc, upd_ne hne.symm]; exact h3', Nat.le_of_succ_le h4, h5, h6, h7, h8⟩
          have K2 : Keep d aw H (upd (upd H1 aw (.lst (xs.map V.int))) d (.dK (dk aw ac x turn))) := fun b o e n1 n2 => by
            rw [upd_ne n1, upd_ne n2]
            exact K1 b o e n1 n2
          exact tail _ (D2.mono (by omega)) K2
      · refine ⟨_, rfl, d, aw, ac, n, rfl, D1, hn, fun r H2 KK DD => ?_⟩
        obtain ⟨_, wide', cells', rest', turn', e1, e2, e3, e4, e5, e6, e7, e8⟩ := DD
        refine ⟨_, rfl, d, _, rfl, set_rest e1 r, ?_⟩
        have D2 : Draw (upd H2 d (.dK (dk aw ac r turn'))) d aw ac (n + 1) := ⟨hne, wide', cells', r, turn', upd_same, by rw [upd_ne nda]; exact e2, by rw [upd_ne ndc]; exact e3, e4, e5, e6, e7, e8⟩
        have K2 : Keep d aw H (upd H2 d (.dK (dk aw ac r turn'))) := fun b o e n1 n2 => by
          rw [upd_ne n1]
          exact (K1.trans KK) b o e n1 n2
        exact tail _ D2 K2
    · exact tail _ ⟨hne, wide, cells, rest, turn, h1, h2, h3, h4, h5, h6, h7, by omega⟩ (Keep.refl d aw H)
abbrev Npick : List Str := ["_law_draw", "_law_some"]
theorem scpick : FnScope Npick ["_law_draw", "_law_some"] (defScope spick) := ⟨rfl, rfl, rfl, by decide +kernel, rfl, by decide +kernel, by decide +kernel⟩
/-- .. of a list -/
def spPick (K : PySem.W.Frag) : Sp := fun vs H Q _ => ∃ (d aw ac p : Addr) (n : Int) (xs : List V), vs = [.ref d, .ref p] ∧ Draw H d aw ac n ∧ n < 1000000000000 ∧ SqL K H p xs ∧ p ≠ aw ∧ p ≠ d ∧ 0 < xs.length ∧ xs.length ≤ 1000000 ∧
  ∀ (i : Nat) (x : V) H', xs[i]? = some x → Keep d aw H H' → Draw H' d aw ac (n + 1) → Q x H'
theorem c_pick (T : Tx sx K mg) : Cal P w K mg base "_law_pick" 3 ["_law_draw", "_law_some"] (spPick K) := by
  refine T.cal 3 rfl (by decide +kernel) scpick (fun vs H Q E h => ?_) (fun _ _ _ _ _ _ us hl => match us, hl with | [_, _], _ => rfl) (fun cdv A outer s H vs Q E hr h => ?_)
  · obtain ⟨d, aw, ac, p, n, xs, rfl, _⟩ := h
    rfl
  · obtain ⟨d, aw, ac, p, n, xs, rfl, D, hn, hS, hpa, hpd, hl0, hl, k⟩ := h
    have hu := hu_of hr
    refine ⟨_, (pss_one (ps_ret (pe_ix ix_list (pv 1) (pe_cal (c_take T) hr (pa_cons (pv 0) (pa_cons (pe_callB call_len_seq (by rfl) (T.free "len") (by decide +kernel) (pa_cons (pv 1) pa_nil)) pa_nil))) (fun _ _ => rfl)))), ?_⟩
    refine ⟨_, rfl, _, rfl, _, rfl, p, xs, rfl, .inl hS, ?_⟩
    refine ⟨d, aw, ac, n, (xs.length : Int), rfl, D, hn, ⟨by omega, by omega⟩, fun r H' r1 r2 KK DD => ?_⟩
    have hlt : r.toNat < xs.length := by omega
    refine ⟨p, xs, r, xs[r.toNat], rfl, rfl, KK.seqL hS hpd hpa, ?_, k r.toNat _ H' (List.getElem?_eq_getElem hlt) KK DD⟩
    show (ixN xs.length r).bind (fun j => xs[j]?) = _
    unfold ixN
    rw [if_pos r1, if_pos (by omega)]
    exact List.getElem?_eq_getElem hlt
end
end K24

set_option maxHeartbeats 4000000
namespace K24
open PySem PySem.Spec PyProof.Rows L2 He Sa
section
variable {K : PySem.W.Frag}
theorem chk_all (Y : chk K = true) : (∀ x ∈ errs, mroB K (ga K "PageError") (ga K x) = true ∧ ExcC K (ga K x)) ∧ (∀ x ∈ plain, (Fa.exc x).ok K = true) ∧ pageB K = true ∧ ((("PageError" : Str) :: errs).map (ga K)).Nodup := by
  obtain ⟨h1, h⟩ := ba Y
  obtain ⟨h2, h⟩ := ba h
  obtain ⟨h3, h4⟩ := ba h
  refine ⟨fun x hx => ?_, fun x hx => List.all_eq_true.mp h2 x hx, h3, of_decide_eq_true h4⟩
  obtain ⟨a, b⟩ := ba (List.all_eq_true.mp h1 x hx)
  exact ⟨a, excB_ok b⟩
theorem mro_cls {P C : Addr} (h : mroB K P C = true) : (PySem.W.clsIn K C).isSome = true ∧ PySem.W.typeIn K (.ref C) = some (.type "type") ∧ ∀ v, PySem.W.mroIn K C v = some ((Value.ref C :: .ref P :: veBase).contains v) := by
  unfold mroB at h
  split at h
  · rename_i dd cd sl ho
    have e := of_decide_eq_true h
    have hc : PySem.W.clsIn K C = some cd := by
      unfold PySem.W.clsIn
      rw [ho]
    refine ⟨by rw [hc]; rfl, ?_, fun v => ?_⟩
    · show (K.lookup C).map (·.cls) = _
      rw [ho]
      rfl
    · unfold PySem.W.mroIn
      rw [hc]
      show (if cd.mro.isEmpty then none else some (cd.mro.contains v)) = _
      rw [e]
      rfl
  · cases h
theorem ref_beq (a b : Addr) : (Value.ref a == Value.ref b) = decide (a = b) := by
  by_cases h : a = b
  · subst h
    rw [decide_eq_true rfl]
    exact beq_self_eq_true _
  · rw [decide_eq_false h]
    exact beq_false_of_ne (fun e => h (by cases e; rfl))
theorem nodup_inj {α β : Type} {f : α → β} : ∀ {l : List α}, (l.map f).Nodup → ∀ y ∈ l, ∀ z ∈ l, f y = f z → y = z
  | [], _, y, hy, _, _, _ => nomatch hy
  | a :: l, nd, y, hy, z, hz, e => by
    obtain ⟨n1, n2⟩ := List.nodup_cons.mp nd
    rcases List.mem_cons.mp hy with h1 | h1
    · rcases List.mem_cons.mp hz with h2 | h2
      · rw [h1, h2]
      · exact absurd (List.mem_map.mpr ⟨z, h2, by rw [← e, h1]⟩) n1
    · rcases List.mem_cons.mp hz with h2 | h2
      · exact absurd (List.mem_map.mpr ⟨y, h1, by rw [e, h2]⟩) n1
      · exact nodup_inj n2 y h1 z h2 e
theorem one_err (Y : chk K = true) {c x : Str} (hc : c ∈ errs) (hx : x ∈ errs) : PySem.W.kitOne K (.ref (ga K c)) (.ref (ga K x)) = some (decide (c = x)) := by
  obtain ⟨h1, _, _, nd⟩ := chk_all Y
  have inj : ∀ y ∈ errs, ∀ z ∈ errs, ga K y = ga K z → y = z := by
    have nd2 := (List.nodup_cons.mp nd).2
    intro y hy z hz e
    exact nodup_inj nd2 y hy z hz e
  have np : ga K x ≠ ga K "PageError" := fun e => (List.nodup_cons.mp nd).1 (by rw [← e]; exact List.mem_map.mpr ⟨x, hx, rfl⟩)
  obtain ⟨m1, m2, m3⟩ := mro_cls (h1 c hc).1
  obtain ⟨n1, n2, _⟩ := mro_cls (h1 x hx).1
  unfold PySem.W.kitOne
  rw [ref_beq]
  by_cases e : c = x
  · subst e
    rw [if_pos (decide_eq_true rfl), decide_eq_true rfl]
  · have ne : ga K c ≠ ga K x := fun z => e (inj c hc x hx z)
    rw [if_neg (by rw [decide_eq_false ne]; decide)]
    show (if ((PySem.W.clsIn K (ga K x)).isSome && PySem.W.typeIn K (.ref (ga K x)) == some (.type "type")) = true then PySem.W.mroIn K (ga K c) (.ref (ga K x)) else none) = _
    rw [if_pos (by rw [n1, n2]; rfl), m3, decide_eq_false e]
    show some ((Value.ref (ga K x) == Value.ref (ga K c)) || ((Value.ref (ga K x) == Value.ref (ga K "PageError")) || veBase.contains (.ref (ga K x)))) = _
    rw [ref_beq, ref_beq, decide_eq_false (fun z => ne z.symm), decide_eq_false np]
    rfl
theorem one_page (Y : chk K = true) {c : Str} (hc : c ∈ errs) : PySem.W.kitOne K (.ref (ga K c)) (.ref (ga K "PageError")) = some true := by
  obtain ⟨h1, _, pg, nd⟩ := chk_all Y
  obtain ⟨m1, m2, m3⟩ := mro_cls (h1 c hc).1
  obtain ⟨p1, p2⟩ := ba pg
  have p2 := of_decide_eq_true p2
  have np : ga K c ≠ ga K "PageError" := fun e => (List.nodup_cons.mp nd).1 (by rw [← e]; exact List.mem_map.mpr ⟨c, hc, rfl⟩)
  unfold PySem.W.kitOne
  rw [ref_beq, if_neg (by rw [decide_eq_false np]; decide)]
  show (if ((PySem.W.clsIn K (ga K "PageError")).isSome && PySem.W.typeIn K (.ref (ga K "PageError")) == some (.type "type")) = true then PySem.W.mroIn K (ga K c) (.ref (ga K "PageError")) else none) = _
  rw [if_pos (by rw [p1, p2]; rfl), m3]
  show some ((Value.ref (ga K "PageError") == Value.ref (ga K c)) || ((Value.ref (ga K "PageError") == Value.ref (ga K "PageError")) || veBase.contains (.ref (ga K "PageError")))) = _
  rw [ref_beq, ref_beq, decide_eq_true (rfl : ga K "PageError" = ga K "PageError"), Bool.true_or, Bool.or_true]
theorem one_ve (Y : chk K = true) {c : Str} (hc : c ∈ errs) : PySem.W.kitOne K (.ref (ga K c)) (.type "ValueError") = some true := by
  obtain ⟨h1, _, _, _⟩ := chk_all Y
  obtain ⟨m1, m2, m3⟩ := mro_cls (h1 c hc).1
  show (if (Value.ref (ga K c) == Value.type "ValueError") = true then some true else if PySem.W.kitMeta "ValueError" = true then PySem.W.mroIn K (ga K c) (.type "ValueError") else none) = _
  rw [if_neg (fun e => by cases (eq_of_beq e)), if_pos (by decide +kernel), m3]
  rfl
end
end K24

set_option maxHeartbeats 4000000
namespace Sa
open PySem PySem.Spec PyProof.Rows L2
theorem Same.rfl {H : Hp} : Same H H := fun _ _ h => h
theorem Same.errAt {H H' : Hp} {a C : Addr} (s : Same H H') (e : ErrAt H a C) : ErrAt H' a C := by
  cases e with
  | plain h => exact .plain (s _ _ h)
  | full h hd => exact .full (s _ _ h) (s _ _ hd)
/-- the errors at as, of the classes Cs, in turn -/
inductive Ers (H : Hp) : List Addr → List Addr → Prop
  | nil : Ers H [] []
  | cons {a C : Addr} {as Cs : List Addr} : ErrAt H a C → Ers H as Cs → Ers H (a :: as) (C :: Cs)
theorem Ers.same {H H' : Hp} (s : Same H H') : ∀ {as Cs : List Addr}, Ers H as Cs → Ers H' as Cs
  | _, _, .nil => .nil
  | _, _, .cons h r => .cons (Same.errAt s h) (Ers.same s r)
theorem Ers.append {H : Hp} : ∀ {as Cs bs Ds : List Addr}, Ers H as Cs → Ers H bs Ds → Ers H (as ++ bs) (Cs ++ Ds)
  | _, _, _, _, .nil, r => r
  | _, _, _, _, .cons h r, q => .cons h (Ers.append r q)
theorem Ers.length {H : Hp} : ∀ {as Cs : List Addr}, Ers H as Cs → as.length = Cs.length
  | _, _, .nil => by simp
  | _, _, .cons _ r => by simp [Ers.length r]
theorem Ers.get {H : Hp} : ∀ {as Cs : List Addr}, Ers H as Cs → ∀ (i : Nat) (a : Addr), as[i]? = some a → ∃ C, Cs[i]? = some C ∧ ErrAt H a C
  | _, _, .nil, i, a, h => by simp at h
  | _, _, .cons (a := b) (C := C) h r, 0, a, e => by
    have z : b = a := Option.some.inj e
    exact ⟨C, rfl, by rw [← z]; exact h⟩
  | _, _, .cons h r, i + 1, a, e => by
    rw [List.getElem?_cons_succ] at e ⊢
    exact Ers.get r i a e
def tPl (C : Addr) : TE := fun σ H Q => ∀ a, H a = none → Q (.ref a) (upd H a (ExO (.ref C) a))
def tPls : List Addr → TA
  | [] => tNil
  | C :: Cs => tCons (tPl C) (tPls Cs)
theorem pls_ok : ∀ (Cs : List Addr) {σ : L2.St} {H : Hp} {Q : List V → Hp → Prop}, (∀ as H', Same H H' → Ers H' as Cs → Q (as.map V.ref) H') → tPls Cs σ H Q
  | [], _, H, _, h => h [] H Same.rfl .nil
  | C :: Cs, _, H, _, h => fun a ha => pls_ok Cs fun as H' s e => h (a :: as) H' (fun b o q => s b o (Same.new ha b o q)) (.cons (.plain (s a _ upd_same)) e)
theorem szE {H : Hp} {as Cs : List Addr} (e : Ers H as Cs) (h : Cs.length ≤ 1000) : (as.map V.ref).length ≤ sizeLine := by
  rw [List.length_map, e.length]
  exact Nat.le_of_lt (small1000 h)
theorem s_first {Cs : List Addr} {D : Ends} {x : Option V} {H : Hp} (hl : Cs.length ≤ 1000)
    (k : ∀ p as H', Same H H' → H p = none → H' p = some (.lst (as.map V.ref)) → Ers H' as Cs → D.nx [some (.ref p)] H') : tAsg (tLst (tPls Cs)) (gName 0) D [x] H := by
  refine pls_ok Cs fun as H0 s0 e0 => ⟨szE e0 hl, fun p hp => ?_⟩
  exact k p as _ (Same.trans s0 (Same.new hp)) (Same.free s0 hp) upd_same (Ers.same (Same.new hp) e0)
theorem s_more {Cs Ds : List Addr} {D : Ends} {p : Addr} {as : List Addr} {H : Hp} (h : H p = some (.lst (as.map V.ref))) (e : Ers H as Ds) (hl : Cs.length ≤ 1000) (hd : Ds.length ≤ 1000)
    (k : ∀ p' bs H', Same H H' → H p' = none → H' p' = some (.lst (bs.map V.ref)) → Ers H' bs (Ds ++ Cs) → D.nx [some (.ref p')] H') : tAsg (tOp rCat (tVar 0) (tLst (tPls Cs))) (gName 0) D [some (.ref p)] H := by
  refine ⟨_, rfl, pls_ok Cs fun bs H0 s0 e0 => ⟨szE e0 hl, fun q hq => ?_⟩⟩
  have s1 := Same.trans s0 (Same.new (o := .lst (bs.map V.ref)) hq)
  have nqp : p ≠ q := ne_of_none (s0 _ _ h) hq
  refine ⟨p, q, _, _, rfl, rfl, s1 _ _ h, upd_same, ?_, fun p' hp' => ?_⟩
  · rw [List.length_map, List.length_map, e.length, e0.length]
    exact Nat.le_trans (Nat.add_le_add hd hl) (by decide)
  · refine k p' (as ++ bs) _ (Same.trans s1 (Same.new hp')) (Same.free s1 hp') (by rw [upd_same, List.map_append]) ?_
    exact Ers.same (Same.new hp') (Ers.append (Ers.same s1 e) (Ers.same (Same.new hq) e0))
end Sa
namespace K24
open PySem PySem.Spec PyProof.Rows L2 He Sa
def pl0 : List Str := ["BadAnswer", "BadAnswers", "BadBit", "BadCall", "BadClause", "BadCount", "BadDocument", "BadFuture", "BadGroup"]
def pl1 : List Str := ["BadHistory", "BadHouse", "BadIndex", "BadLaw", "BadLeft", "BadLimit", "BadMany", "BadMeaning", "BadMost", "BadName"]
def pl2 : List Str := ["BadNames", "BadNumber", "BadOuter", "BadPool", "BadProgram", "BadPrograms", "BadScript", "BadSet", "BadStand", "BadState"]
def pl3 : List Str := ["BadSuite", "BadThing", "BadWord", "Empty", "Ended", "ManyObjects", "NoDifference", "NotAsked", "NotDone", "NotEnough"]
def pl4 : List Str := ["NotGuessed", "NotMet", "NotOrderly", "NothingDone", "NothingUndone", "OtherHouse", "Sound", "TooMany", "Unsound"]
section
variable {P : Program} {w : World} {K : PySem.W.Frag} {mg : Str → Option Value} {base : Heap}
theorem pe_pl {X : Cx} {x m : Str} {p q pos : Pos} {j : Nat} (T : Tx sx X.K X.mg) (Y : chk X.K = true) (hx : x ∈ plain := by decide +kernel) (hy : x ∈ glos := by decide +kernel) (hg : Gl X x := by rfl) (hdb : (x == ("__debug__" : Str)) = false := by decide)
    (hs : starEach [.Constant (.str m) j q] X.env = (false, eval (.Constant (.str m) j q) X.env) :: starEach [] X.env := by rfl) : PE X (.Call (.Name x p) [.Constant (.str m) j q] [] pos) (tPl (ga X.K x)) := by
  obtain ⟨e1, e2, _, _⟩ := He.exc_ok ((chk_all Y).2.1 x hx)
  exact pe_exc1 F.excBase_ValueError e1 (T.glo x hy) e2 hg pe_str hs hdb
theorem pas_pl {X : Cx} {e : Expr} {es : List Expr} {C : Addr} {Cs : List Addr} (h : PE X e (tPl C)) (r : PA X es (tPls Cs)) (hs : starEach (e :: es) X.env = (false, eval e X.env) :: starEach es X.env := by rfl) : PA X (e :: es) (tPls (C :: Cs)) := pa_cons h r hs
theorem pas_nil {X : Cx} : PA X [] (tPls []) := pa_nil
abbrev Nplain_errors : List Str := ["_law_found"]
theorem scplain_errors : FnScope Nplain_errors [] (defScope splain_errors) := ⟨rfl, rfl, rfl, by decide +kernel, rfl, by decide +kernel, by decide +kernel⟩
def spPlain (K : PySem.W.Frag) : Sp := fun vs H Q _ => vs = [] ∧ ∀ p as H', Same H H' → H p = none → H' p = some (.lst (as.map V.ref)) → Ers H' as (plain.map (ga K)) → Q (.ref p) H'
theorem c_plain (T : Tx sx K mg) (Y : chk K = true) : Cal P w K mg base "_law_plain_errors" 1 [] (spPlain K) := by
  refine T.cal 4 rfl (by decide +kernel) scplain_errors (fun vs H Q E h => ?_) (fun _ _ _ _ _ _ us hl => match us, hl with | [], _ => rfl) (fun cdv A outer s H vs Q E hr h => ?_)
  · obtain ⟨rfl, _⟩ := h
    rfl
  · obtain ⟨rfl, k⟩ := h
    refine ⟨_, (pss_cons (ps_set (i := 0) scplain_errors.nd rfl (Or.inl rfl) (pe_lst (pas_pl (pe_pl T Y) (pas_pl (pe_pl T Y) (pas_pl (pe_pl T Y) (pas_pl (pe_pl T Y) (pas_pl (pe_pl T Y) (pas_pl (pe_pl T Y) (pas_pl (pe_pl T Y) (pas_pl (pe_pl T Y) (pas_pl (pe_pl T Y) pas_nil)))))))))))
    (pss_cons (ps_set (i := 0) scplain_errors.nd rfl (Or.inl rfl) (pe_op op_cat (pv 0) (pe_lst (pas_pl (pe_pl T Y) (pas_pl (pe_pl T Y) (pas_pl (pe_pl T Y) (pas_pl (pe_pl T Y) (pas_pl (pe_pl T Y) (pas_pl (pe_pl T Y) (pas_pl (pe_pl T Y) (pas_pl (pe_pl T Y) (pas_pl (pe_pl T Y) (pas_pl (pe_pl T Y) pas_nil)))))))))))))
    (pss_cons (ps_set (i := 0) scplain_errors.nd rfl (Or.inl rfl) (pe_op op_cat (pv 0) (pe_lst (pas_pl (pe_pl T Y) (pas_pl (pe_pl T Y) (pas_pl (pe_pl T Y) (pas_pl (pe_pl T Y) (pas_pl (pe_pl T Y) (pas_pl (pe_pl T Y) (pas_pl (pe_pl T Y) (pas_pl (pe_pl T Y) (pas_pl (pe_pl T Y) (pas_pl (pe_pl T Y) pas_nil)))))))))))))
    (pss_cons (ps_set (i := 0) scplain_errors.nd rfl (Or.inl rfl) (pe_op op_cat (pv 0) (pe_lst (pas_pl (pe_pl T Y) (pas_pl (pe_pl T Y) (pas_pl (pe_pl T Y) (pas_pl (pe_pl T Y) (pas_pl (pe_pl T Y) (pas_pl (pe_pl T Y) (pas_pl (pe_pl T Y) (pas_pl (pe_pl T Y) (pas_pl (pe_pl T Y) (pas_pl (pe_pl T Y) pas_nil)))))))))))))
    (pss_cons (ps_set (i := 0) scplain_errors.nd rfl (Or.inl rfl) (pe_op op_cat (pv 0) (pe_lst (pas_pl (pe_pl T Y) (pas_pl (pe_pl T Y) (pas_pl (pe_pl T Y) (pas_pl (pe_pl T Y) (pas_pl (pe_pl T Y) (pas_pl (pe_pl T Y) (pas_pl (pe_pl T Y) (pas_pl (pe_pl T Y) (pas_pl (pe_pl T Y) pas_nil))))))))))))
    (pss_one (ps_ret (pv 0)))))))), ?_⟩

    refine s_first (Cs := pl0.map (ga K)) (Nat.le_of_ble_eq_true rfl) fun p0 as0 H0 s0 n0 h0 e0 => ?_
    refine s_more (Cs := pl1.map (ga K)) h0 e0 (Nat.le_of_ble_eq_true rfl) (Nat.le_of_ble_eq_true rfl) fun p1 as1 H1 s1 n1 h1 e1 => ?_
    refine s_more (Cs := pl2.map (ga K)) h1 e1 (Nat.le_of_ble_eq_true rfl) (Nat.le_of_ble_eq_true rfl) fun p2 as2 H2 s2 n2 h2 e2 => ?_
    refine s_more (Cs := pl3.map (ga K)) h2 e2 (Nat.le_of_ble_eq_true rfl) (Nat.le_of_ble_eq_true rfl) fun p3 as3 H3 s3 n3 h3 e3 => ?_
    refine s_more (Cs := pl4.map (ga K)) h3 e3 (Nat.le_of_ble_eq_true rfl) (Nat.le_of_ble_eq_true rfl) fun p4 as4 H4 s4 n4 h4 e4 => ?_
    have t4 := ((((Same.trans s0 s1).trans s2).trans s3).trans s4)
    exact ⟨_, rfl, k p4 as4 H4 t4 (Same.free (((Same.trans s0 s1).trans s2).trans s3) n4) h4 e4⟩
end
end K24

set_option maxHeartbeats 4000000
namespace Sa
open PySem PySem.Spec PyProof.Rows L2 He NdefX
/-- __init__ of an error with fields: the last one kept stands first -/
def spFld (C : Addr) (fs : List Str) : Sp := fun vs H Q _ => ∃ (a : Addr) (ys : List V), vs = .ref a :: ys ∧ ys.length = fs.length ∧ H a = some (exo a C none) ∧
  ∀ dx H', H dx = none → dx ≠ a → H' a = some (exo a C (some dx)) → H' dx = some (exd dx (fs.zip ys).reverse) → (∀ b, b ≠ a → b ≠ dx → H' b = H b) → Q .non H'
theorem len_spFld {C : Addr} {fs : List Str} {vs : List V} {H : Hp} {Q : VK} {E : XK} (h : spFld C fs vs H Q E) : vs.length = fs.length + 1 := by
  obtain ⟨a, ys, rfl, hl, _⟩ := h
  show ys.length + 1 = _
  rw [hl]
theorem len1 {ys : List V} (h : ys.length = 1) : ∃ a, ys = [a] := match ys, h with | [a], _ => ⟨a, rfl⟩
theorem len3 {ys : List V} (h : ys.length = 3) : ∃ a b c, ys = [a, b, c] := match ys, h with | [a, b, c], _ => ⟨a, b, c, rfl⟩
theorem len2 {ys : List V} (h : ys.length = 2) : ∃ a b, ys = [a, b] := match ys, h with | [a, b], _ => ⟨a, b, rfl⟩
def FldAt (H0 : Hp) (a C dx : Addr) (fs : List (Str × V)) (H : Hp) : Prop := H a = some (exo a C (some dx)) ∧ H dx = some (exd dx fs) ∧ ∀ b, b ≠ a → b ≠ dx → H b = H0 b
theorem fld_new {H : Hp} {a C dx : Addr} {f : Str} {v : V} (n2 : dx ≠ a) : FldAt H a C dx [(f, v)] (upd (upd H dx (exd dx [(f, v)])) a (exo a C (some dx))) :=
  ⟨upd_same, by rw [upd_ne n2, upd_same], fun b b1 b2 => by rw [upd_ne b1, upd_ne b2]⟩
theorem fld_more {H0 H : Hp} {a C dx : Addr} {fs : List (Str × V)} {f : Str} {v : V} (n2 : dx ≠ a) (z : FldAt H0 a C dx fs H) : FldAt H0 a C dx ((f, v) :: fs) (upd H dx (exd dx ((f, v) :: fs))) :=
  ⟨by rw [upd_ne n2.symm]; exact z.1, upd_same, fun b b1 b2 => by rw [upd_ne b2]; exact z.2.2 b b1 b2⟩
structure SupF (P : Program) (w : World) (K : PySem.W.Frag) (mg : Str → Option Value) (base : Heap) (d : SupD) (ps : List Str) (sp : Sp) : Prop where
  ex : ∃ fd, FnOk P w K mg base (L2.CX P w) 1 (d.at_ K) fd ps sp ∧ Binds K fd ps [] ∧ SupK P K (ga K d.cls) (d.nf K) (d.at_ K) fd
/-- the program's file and scope -/
structure Pok (P : Program) : Prop where
  file : P.main.file = theFile
  top : (P.main.scope.names.lookup ("super" : Str)).isSome = false
section
variable {X : Cx} {d : SupD} {sx : Sx} {j : Nat} {ps : List Str} {sp : Sp} {p pos : Pos} {x : Str} {e : Expr} {es : List Expr} {ta : TA}
theorem pe_sup (F : SupF X.prog X.w X.K X.mg X.base d ps sp) (T : Tx sx X.K X.mg) (hr : Room j X.A) (ha : PA X (e :: es) ta) (ex : x = d.cls := by rfl) (hx : x ∈ sx.glos := by decide +kernel) (hj : 2 ≤ j := by decide) (hg : Gl X x := by rfl)
    (hdb : (x == ("__debug__" : Str)) = false := by decide) (he : starEach (e :: es) X.env = (false, eval e X.env) :: starEach es X.env := by rfl) (hpl : (backTo pos (starEach es X.env)).any (·.1) = false := by rfl) :
    PE X (.Call (.Name x p) (e :: es) [] pos) (tNewO (ga X.K d.cls) sp ta) := by
  obtain ⟨fd, F1, hb, S⟩ := F.ex
  subst ex
  exact pe_oex S.oex S.iC S.tI F1 (hr.mono hj) hb passL hg (T.glo d.cls hx) ha hdb he hpl
end
/-- the making: what comes of it -/
theorem new_fld {C : Addr} {fs : List Str} {H : Hp} {Q : VK} {vs : List V} (hl : vs.length = fs.length) (h1 : vs.length ≤ 1000)
    (k : ∀ a dx H', H a = none → Same H H' → H' a = some (exo a C (some dx)) → H' dx = some (exd dx (fs.zip vs).reverse) → Q (.ref a) H') :
    vs.length ≤ 1000 ∧ ∀ a, H a = none → spFld C fs (.ref a :: vs) (upd H a (exo a C none)) (fun v H2 => v = .non ∧ Q (.ref a) H2) (fun _ _ _ => False) := by
  refine ⟨h1, fun a ha => ⟨a, vs, rfl, hl, upd_same, fun dx H' n1 n2 e1 e2 e3 => ⟨rfl, k a dx H' ha (fun b o q => ?_) e1 e2⟩⟩⟩
  have na : b ≠ a := ne_of_none q ha
  rw [upd_ne n2] at n1
  rw [e3 b na (ne_of_none q n1), upd_ne na]
  exact q
end Sa
namespace K24
open PySem PySem.Spec PyProof.Rows L2 He Sa NdefX
section
variable {P : Program} {w : World} {K : PySem.W.Frag} {mg : Str → Option Value} {base : Heap}
abbrev d_BadBits : SupD := ⟨"BadBits", "BadBits.__init__", defArgs iBadBits, defBody iBadBits, defScope iBadBits, ["at"]⟩
theorem nsc_BadBits : NScope ["self", "at", "__class__"] ["self", "at"] ["__class__"] (defScope iBadBits) := nscope_by (by decide +kernel)
theorem f_BadBits (T : Tx sx K mg) (p : Pok P) : SupF P w K mg base d_BadBits ["self", "at"] (spFld (ga K "BadBits") ["at"]) := by
  obtain ⟨⟨fd, S⟩, X, n⟩ := T.sup 0 (P := P) (d := d_BadBits) p.file rfl
  refine ⟨⟨fd, fn_super (N := ["self", "at", "__class__"]) nsc_BadBits S (T.free "super") (by rfl) p.top rfl rfl (fun vs H Q E h => ?_) rfl (fun L => ⟨_, rfl⟩) (fun _ => rfl) (fun _ => rfl) (fun vs H Q E h => ?_) (fun A outer s H vs Q E hr h => ?_), ?_, S⟩⟩
  · exact len_spFld h
  · obtain ⟨a, ys, rfl, _, ha, _⟩ := h
    exact ⟨a, _, rfl, ha⟩
  · obtain ⟨a, ys, rfl, hl, ha, k⟩ := h
    obtain ⟨v0, rfl⟩ := len1 hl
    refine ⟨_, (pss_one (ps_ost (pv 0) (pv 1))), ?_⟩
    exact ⟨_, rfl, _, rfl, a, _, rfl, S.oex, n _ (by decide +kernel), .inl ⟨ha, fun dx n1 n2 => (fun z1 => k dx _ n1 n2 z1.1 z1.2.1 z1.2.2) (fld_new (H := H) (C := ga K "BadBits") (f := "at") (v := v0) n2)⟩⟩
  · obtain ⟨oc, od, doc, pm, ctv, an, osl, rfl, lk⟩ := S.lk
    exact Binds.all fun us hl => match us, hl with | [_, _], _ => rfl
abbrev d_BadDocuments : SupD := ⟨"BadDocuments", "BadDocuments.__init__", defArgs iBadDocuments, defBody iBadDocuments, defScope iBadDocuments, ["at"]⟩
theorem nsc_BadDocuments : NScope ["self", "at", "__class__"] ["self", "at"] ["__class__"] (defScope iBadDocuments) := nscope_by (by decide +kernel)
theorem f_BadDocuments (T : Tx sx K mg) (p : Pok P) : SupF P w K mg base d_BadDocuments ["self", "at"] (spFld (ga K "BadDocuments") ["at"]) := by
  obtain ⟨⟨fd, S⟩, X, n⟩ := T.sup 1 (P := P) (d := d_BadDocuments) p.file rfl
  refine ⟨⟨fd, fn_super (N := ["self", "at", "__class__"]) nsc_BadDocuments S (T.free "super") (by rfl) p.top rfl rfl (fun vs H Q E h => ?_) rfl (fun L => ⟨_, rfl⟩) (fun _ => rfl) (fun _ => rfl) (fun vs H Q E h => ?_) (fun A outer s H vs Q E hr h => ?_), ?_, S⟩⟩
  · exact len_spFld h
  · obtain ⟨a, ys, rfl, _, ha, _⟩ := h
    exact ⟨a, _, rfl, ha⟩
  · obtain ⟨a, ys, rfl, hl, ha, k⟩ := h
    obtain ⟨v0, rfl⟩ := len1 hl
    refine ⟨_, (pss_one (ps_ost (pv 0) (pv 1))), ?_⟩
    exact ⟨_, rfl, _, rfl, a, _, rfl, S.oex, n _ (by decide +kernel), .inl ⟨ha, fun dx n1 n2 => (fun z1 => k dx _ n1 n2 z1.1 z1.2.1 z1.2.2) (fld_new (H := H) (C := ga K "BadDocuments") (f := "at") (v := v0) n2)⟩⟩
  · obtain ⟨oc, od, doc, pm, ctv, an, osl, rfl, lk⟩ := S.lk
    exact Binds.all fun us hl => match us, hl with | [_, _], _ => rfl
abbrev d_BadHistories : SupD := ⟨"BadHistories", "BadHistories.__init__", defArgs iBadHistories, defBody iBadHistories, defScope iBadHistories, ["at"]⟩
theorem nsc_BadHistories : NScope ["self", "at", "__class__"] ["self", "at"] ["__class__"] (defScope iBadHistories) := nscope_by (by decide +kernel)
theorem f_BadHistories (T : Tx sx K mg) (p : Pok P) : SupF P w K mg base d_BadHistories ["self", "at"] (spFld (ga K "BadHistories") ["at"]) := by
  obtain ⟨⟨fd, S⟩, X, n⟩ := T.sup 2 (P := P) (d := d_BadHistories) p.file rfl
  refine ⟨⟨fd, fn_super (N := ["self", "at", "__class__"]) nsc_BadHistories S (T.free "super") (by rfl) p.top rfl rfl (fun vs H Q E h => ?_) rfl (fun L => ⟨_, rfl⟩) (fun _ => rfl) (fun _ => rfl) (fun vs H Q E h => ?_) (fun A outer s H vs Q E hr h => ?_), ?_, S⟩⟩
  · exact len_spFld h
  · obtain ⟨a, ys, rfl, _, ha, _⟩ := h
    exact ⟨a, _, rfl, ha⟩
  · obtain ⟨a, ys, rfl, hl, ha, k⟩ := h
    obtain ⟨v0, rfl⟩ := len1 hl
    refine ⟨_, (pss_one (ps_ost (pv 0) (pv 1))), ?_⟩
    exact ⟨_, rfl, _, rfl, a, _, rfl, S.oex, n _ (by decide +kernel), .inl ⟨ha, fun dx n1 n2 => (fun z1 => k dx _ n1 n2 z1.1 z1.2.1 z1.2.2) (fld_new (H := H) (C := ga K "BadHistories") (f := "at") (v := v0) n2)⟩⟩
  · obtain ⟨oc, od, doc, pm, ctv, an, osl, rfl, lk⟩ := S.lk
    exact Binds.all fun us hl => match us, hl with | [_, _], _ => rfl
abbrev d_BadLaws : SupD := ⟨"BadLaws", "BadLaws.__init__", defArgs iBadLaws, defBody iBadLaws, defScope iBadLaws, ["at"]⟩
theorem nsc_BadLaws : NScope ["self", "at", "__class__"] ["self", "at"] ["__class__"] (defScope iBadLaws) := nscope_by (by decide +kernel)
theorem f_BadLaws (T : Tx sx K mg) (p : Pok P) : SupF P w K mg base d_BadLaws ["self", "at"] (spFld (ga K "BadLaws") ["at"]) := by
  obtain ⟨⟨fd, S⟩, X, n⟩ := T.sup 3 (P := P) (d := d_BadLaws) p.file rfl
  refine ⟨⟨fd, fn_super (N := ["self", "at", "__class__"]) nsc_BadLaws S (T.free "super") (by rfl) p.top rfl rfl (fun vs H Q E h => ?_) rfl (fun L => ⟨_, rfl⟩) (fun _ => rfl) (fun _ => rfl) (fun vs H Q E h => ?_) (fun A outer s H vs Q E hr h => ?_), ?_, S⟩⟩
  · exact len_spFld h
  · obtain ⟨a, ys, rfl, _, ha, _⟩ := h
    exact ⟨a, _, rfl, ha⟩
  · obtain ⟨a, ys, rfl, hl, ha, k⟩ := h
    obtain ⟨v0, rfl⟩ := len1 hl
    refine ⟨_, (pss_one (ps_ost (pv 0) (pv 1))), ?_⟩
    exact ⟨_, rfl, _, rfl, a, _, rfl, S.oex, n _ (by decide +kernel), .inl ⟨ha, fun dx n1 n2 => (fun z1 => k dx _ n1 n2 z1.1 z1.2.1 z1.2.2) (fld_new (H := H) (C := ga K "BadLaws") (f := "at") (v := v0) n2)⟩⟩
  · obtain ⟨oc, od, doc, pm, ctv, an, osl, rfl, lk⟩ := S.lk
    exact Binds.all fun us hl => match us, hl with | [_, _], _ => rfl
abbrev d_BadPaper : SupD := ⟨"BadPaper", "BadPaper.__init__", defArgs iBadPaper, defBody iBadPaper, defScope iBadPaper, ["word"]⟩
theorem nsc_BadPaper : NScope ["self", "word", "__class__"] ["self", "word"] ["__class__"] (defScope iBadPaper) := nscope_by (by decide +kernel)
theorem f_BadPaper (T : Tx sx K mg) (p : Pok P) : SupF P w K mg base d_BadPaper ["self", "word"] (spFld (ga K "BadPaper") ["word"]) := by
  obtain ⟨⟨fd, S⟩, X, n⟩ := T.sup 4 (P := P) (d := d_BadPaper) p.file rfl
  refine ⟨⟨fd, fn_super (N := ["self", "word", "__class__"]) nsc_BadPaper S (T.free "super") (by rfl) p.top rfl rfl (fun vs H Q E h => ?_) rfl (fun L => ⟨_, rfl⟩) (fun _ => rfl) (fun _ => rfl) (fun vs H Q E h => ?_) (fun A outer s H vs Q E hr h => ?_), ?_, S⟩⟩
  · exact len_spFld h
  · obtain ⟨a, ys, rfl, _, ha, _⟩ := h
    exact ⟨a, _, rfl, ha⟩
  · obtain ⟨a, ys, rfl, hl, ha, k⟩ := h
    obtain ⟨v0, rfl⟩ := len1 hl
    refine ⟨_, (pss_one (ps_ost (pv 0) (pv 1))), ?_⟩
    exact ⟨_, rfl, _, rfl, a, _, rfl, S.oex, n _ (by decide +kernel), .inl ⟨ha, fun dx n1 n2 => (fun z1 => k dx _ n1 n2 z1.1 z1.2.1 z1.2.2) (fld_new (H := H) (C := ga K "BadPaper") (f := "word") (v := v0) n2)⟩⟩
  · obtain ⟨oc, od, doc, pm, ctv, an, osl, rfl, lk⟩ := S.lk
    exact Binds.all fun us hl => match us, hl with | [_, _], _ => rfl
abbrev d_BadText : SupD := ⟨"BadText", "BadText.__init__", defArgs iBadText, defBody iBadText, defScope iBadText, ["line", "column", "wanted"]⟩
theorem nsc_BadText : NScope ["self", "line", "column", "wanted", "__class__"] ["self", "line", "column", "wanted"] ["__class__"] (defScope iBadText) := nscope_by (by decide +kernel)
theorem f_BadText (T : Tx sx K mg) (p : Pok P) : SupF P w K mg base d_BadText ["self", "line", "column", "wanted"] (spFld (ga K "BadText") ["line", "column", "wanted"]) := by
  obtain ⟨⟨fd, S⟩, X, n⟩ := T.sup 5 (P := P) (d := d_BadText) p.file rfl
  refine ⟨⟨fd, fn_super (N := ["self", "line", "column", "wanted", "__class__"]) nsc_BadText S (T.free "super") (by rfl) p.top rfl rfl (fun vs H Q E h => ?_) rfl (fun L => ⟨_, rfl⟩) (fun _ => rfl) (fun _ => rfl) (fun vs H Q E h => ?_) (fun A outer s H vs Q E hr h => ?_), ?_, S⟩⟩
  · exact len_spFld h
  · obtain ⟨a, ys, rfl, _, ha, _⟩ := h
    exact ⟨a, _, rfl, ha⟩
  · obtain ⟨a, ys, rfl, hl, ha, k⟩ := h
    obtain ⟨v0, v1, v2, rfl⟩ := len3 hl
    refine ⟨_, (pss_cons (ps_ost (pv 0) (pv 1)) (pss_cons (ps_ost (pv 0) (pv 2)) (pss_one (ps_ost (pv 0) (pv 3))))), ?_⟩
    refine ⟨_, rfl, _, rfl, a, _, rfl, S.oex, n _ (by decide +kernel), .inl ⟨ha, fun dx n1 n2 => ?_⟩⟩
    have z1 := fld_new (H := H) (C := ga K "BadText") (f := "line") (v := v0) n2
    refine ⟨_, rfl, _, rfl, a, _, rfl, S.oex, n _ (by decide +kernel), .inr ⟨dx, _, z1.1, z1.2.1, (Nat.le_of_ble_eq_true rfl), ?_⟩⟩
    have z2 := fld_more (f := "column") (v := v1) n2 z1
    refine ⟨_, rfl, _, rfl, a, _, rfl, S.oex, n _ (by decide +kernel), .inr ⟨dx, _, z2.1, z2.2.1, (Nat.le_of_ble_eq_true rfl), ?_⟩⟩
    have z3 := fld_more (f := "wanted") (v := v2) n2 z2
    exact k dx _ n1 n2 z3.1 z3.2.1 z3.2.2
  · obtain ⟨oc, od, doc, pm, ctv, an, osl, rfl, lk⟩ := S.lk
    exact Binds.all fun us hl => match us, hl with | [_, _, _, _], _ => rfl
abbrev d_NotPossible : SupD := ⟨"NotPossible", "NotPossible.__init__", defArgs iNotPossible, defBody iNotPossible, defScope iNotPossible, ["at"]⟩
theorem nsc_NotPossible : NScope ["self", "at", "__class__"] ["self", "at"] ["__class__"] (defScope iNotPossible) := nscope_by (by decide +kernel)
theorem f_NotPossible (T : Tx sx K mg) (p : Pok P) : SupF P w K mg base d_NotPossible ["self", "at"] (spFld (ga K "NotPossible") ["at"]) := by
  obtain ⟨⟨fd, S⟩, X, n⟩ := T.sup 6 (P := P) (d := d_NotPossible) p.file rfl
  refine ⟨⟨fd, fn_super (N := ["self", "at", "__class__"]) nsc_NotPossible S (T.free "super") (by rfl) p.top rfl rfl (fun vs H Q E h => ?_) rfl (fun L => ⟨_, rfl⟩) (fun _ => rfl) (fun _ => rfl) (fun vs H Q E h => ?_) (fun A outer s H vs Q E hr h => ?_), ?_, S⟩⟩
  · exact len_spFld h
  · obtain ⟨a, ys, rfl, _, ha, _⟩ := h
    exact ⟨a, _, rfl, ha⟩
  · obtain ⟨a, ys, rfl, hl, ha, k⟩ := h
    obtain ⟨v0, rfl⟩ := len1 hl
    refine ⟨_, (pss_one (ps_ost (pv 0) (pv 1))), ?_⟩
    exact ⟨_, rfl, _, rfl, a, _, rfl, S.oex, n _ (by decide +kernel), .inl ⟨ha, fun dx n1 n2 => (fun z1 => k dx _ n1 n2 z1.1 z1.2.1 z1.2.2) (fld_new (H := H) (C := ga K "NotPossible") (f := "at") (v := v0) n2)⟩⟩
  · obtain ⟨oc, od, doc, pm, ctv, an, osl, rfl, lk⟩ := S.lk
    exact Binds.all fun us hl => match us, hl with | [_, _], _ => rfl
abbrev d_NotRight : SupD := ⟨"NotRight", "NotRight.__init__", defArgs iNotRight, defBody iNotRight, defScope iNotRight, ["word"]⟩
theorem nsc_NotRight : NScope ["self", "word", "__class__"] ["self", "word"] ["__class__"] (defScope iNotRight) := nscope_by (by decide +kernel)
theorem f_NotRight (T : Tx sx K mg) (p : Pok P) : SupF P w K mg base d_NotRight ["self", "word"] (spFld (ga K "NotRight") ["word"]) := by
  obtain ⟨⟨fd, S⟩, X, n⟩ := T.sup 7 (P := P) (d := d_NotRight) p.file rfl
  refine ⟨⟨fd, fn_super (N := ["self", "word", "__class__"]) nsc_NotRight S (T.free "super") (by rfl) p.top rfl rfl (fun vs H Q E h => ?_) rfl (fun L => ⟨_, rfl⟩) (fun _ => rfl) (fun _ => rfl) (fun vs H Q E h => ?_) (fun A outer s H vs Q E hr h => ?_), ?_, S⟩⟩
  · exact len_spFld h
  · obtain ⟨a, ys, rfl, _, ha, _⟩ := h
    exact ⟨a, _, rfl, ha⟩
  · obtain ⟨a, ys, rfl, hl, ha, k⟩ := h
    obtain ⟨v0, rfl⟩ := len1 hl
    refine ⟨_, (pss_one (ps_ost (pv 0) (pv 1))), ?_⟩
    exact ⟨_, rfl, _, rfl, a, _, rfl, S.oex, n _ (by decide +kernel), .inl ⟨ha, fun dx n1 n2 => (fun z1 => k dx _ n1 n2 z1.1 z1.2.1 z1.2.2) (fld_new (H := H) (C := ga K "NotRight") (f := "word") (v := v0) n2)⟩⟩
  · obtain ⟨oc, od, doc, pm, ctv, an, osl, rfl, lk⟩ := S.lk
    exact Binds.all fun us hl => match us, hl with | [_, _], _ => rfl
abbrev d_NotTrue : SupD := ⟨"NotTrue", "NotTrue.__init__", defArgs iNotTrue, defBody iNotTrue, defScope iNotTrue, ["word"]⟩
theorem nsc_NotTrue : NScope ["self", "word", "__class__"] ["self", "word"] ["__class__"] (defScope iNotTrue) := nscope_by (by decide +kernel)
theorem f_NotTrue (T : Tx sx K mg) (p : Pok P) : SupF P w K mg base d_NotTrue ["self", "word"] (spFld (ga K "NotTrue") ["word"]) := by
  obtain ⟨⟨fd, S⟩, X, n⟩ := T.sup 8 (P := P) (d := d_NotTrue) p.file rfl
  refine ⟨⟨fd, fn_super (N := ["self", "word", "__class__"]) nsc_NotTrue S (T.free "super") (by rfl) p.top rfl rfl (fun vs H Q E h => ?_) rfl (fun L => ⟨_, rfl⟩) (fun _ => rfl) (fun _ => rfl) (fun vs H Q E h => ?_) (fun A outer s H vs Q E hr h => ?_), ?_, S⟩⟩
  · exact len_spFld h
  · obtain ⟨a, ys, rfl, _, ha, _⟩ := h
    exact ⟨a, _, rfl, ha⟩
  · obtain ⟨a, ys, rfl, hl, ha, k⟩ := h
    obtain ⟨v0, rfl⟩ := len1 hl
    refine ⟨_, (pss_one (ps_ost (pv 0) (pv 1))), ?_⟩
    exact ⟨_, rfl, _, rfl, a, _, rfl, S.oex, n _ (by decide +kernel), .inl ⟨ha, fun dx n1 n2 => (fun z1 => k dx _ n1 n2 z1.1 z1.2.1 z1.2.2) (fld_new (H := H) (C := ga K "NotTrue") (f := "word") (v := v0) n2)⟩⟩
  · obtain ⟨oc, od, doc, pm, ctv, an, osl, rfl, lk⟩ := S.lk
    exact Binds.all fun us hl => match us, hl with | [_, _], _ => rfl
abbrev d_OverAsks : SupD := ⟨"OverAsks", "OverAsks.__init__", defArgs iOverAsks, defBody iOverAsks, defScope iOverAsks, ["at"]⟩
theorem nsc_OverAsks : NScope ["self", "at", "__class__"] ["self", "at"] ["__class__"] (defScope iOverAsks) := nscope_by (by decide +kernel)
theorem f_OverAsks (T : Tx sx K mg) (p : Pok P) : SupF P w K mg base d_OverAsks ["self", "at"] (spFld (ga K "OverAsks") ["at"]) := by
  obtain ⟨⟨fd, S⟩, X, n⟩ := T.sup 9 (P := P) (d := d_OverAsks) p.file rfl
  refine ⟨⟨fd, fn_super (N := ["self", "at", "__class__"]) nsc_OverAsks S (T.free "super") (by rfl) p.top rfl rfl (fun vs H Q E h => ?_) rfl (fun L => ⟨_, rfl⟩) (fun _ => rfl) (fun _ => rfl) (fun vs H Q E h => ?_) (fun A outer s H vs Q E hr h => ?_), ?_, S⟩⟩
  · exact len_spFld h
  · obtain ⟨a, ys, rfl, _, ha, _⟩ := h
    exact ⟨a, _, rfl, ha⟩
  · obtain ⟨a, ys, rfl, hl, ha, k⟩ := h
    obtain ⟨v0, rfl⟩ := len1 hl
    refine ⟨_, (pss_one (ps_ost (pv 0) (pv 1))), ?_⟩
    exact ⟨_, rfl, _, rfl, a, _, rfl, S.oex, n _ (by decide +kernel), .inl ⟨ha, fun dx n1 n2 => (fun z1 => k dx _ n1 n2 z1.1 z1.2.1 z1.2.2) (fld_new (H := H) (C := ga K "OverAsks") (f := "at") (v := v0) n2)⟩⟩
  · obtain ⟨oc, od, doc, pm, ctv, an, osl, rfl, lk⟩ := S.lk
    exact Binds.all fun us hl => match us, hl with | [_, _], _ => rfl
abbrev d_Parted : SupD := ⟨"Parted", "Parted.__init__", defArgs iParted, defBody iParted, defScope iParted, ["word"]⟩
theorem nsc_Parted : NScope ["self", "word", "__class__"] ["self", "word"] ["__class__"] (defScope iParted) := nscope_by (by decide +kernel)
theorem f_Parted (T : Tx sx K mg) (p : Pok P) : SupF P w K mg base d_Parted ["self", "word"] (spFld (ga K "Parted") ["word"]) := by
  obtain ⟨⟨fd, S⟩, X, n⟩ := T.sup 10 (P := P) (d := d_Parted) p.file rfl
  refine ⟨⟨fd, fn_super (N := ["self", "word", "__class__"]) nsc_Parted S (T.free "super") (by rfl) p.top rfl rfl (fun vs H Q E h => ?_) rfl (fun L => ⟨_, rfl⟩) (fun _ => rfl) (fun _ => rfl) (fun vs H Q E h => ?_) (fun A outer s H vs Q E hr h => ?_), ?_, S⟩⟩
  · exact len_spFld h
  · obtain ⟨a, ys, rfl, _, ha, _⟩ := h
    exact ⟨a, _, rfl, ha⟩
  · obtain ⟨a, ys, rfl, hl, ha, k⟩ := h
    obtain ⟨v0, rfl⟩ := len1 hl
    refine ⟨_, (pss_one (ps_ost (pv 0) (pv 1))), ?_⟩
    exact ⟨_, rfl, _, rfl, a, _, rfl, S.oex, n _ (by decide +kernel), .inl ⟨ha, fun dx n1 n2 => (fun z1 => k dx _ n1 n2 z1.1 z1.2.1 z1.2.2) (fld_new (H := H) (C := ga K "Parted") (f := "word") (v := v0) n2)⟩⟩
  · obtain ⟨oc, od, doc, pm, ctv, an, osl, rfl, lk⟩ := S.lk
    exact Binds.all fun us hl => match us, hl with | [_, _], _ => rfl
abbrev d_SameName : SupD := ⟨"SameName", "SameName.__init__", defArgs iSameName, defBody iSameName, defScope iSameName, ["name"]⟩
theorem nsc_SameName : NScope ["self", "name", "__class__"] ["self", "name"] ["__class__"] (defScope iSameName) := nscope_by (by decide +kernel)
theorem f_SameName (T : Tx sx K mg) (p : Pok P) : SupF P w K mg base d_SameName ["self", "name"] (spFld (ga K "SameName") ["name"]) := by
  obtain ⟨⟨fd, S⟩, X, n⟩ := T.sup 11 (P := P) (d := d_SameName) p.file rfl
  refine ⟨⟨fd, fn_super (N := ["self", "name", "__class__"]) nsc_SameName S (T.free "super") (by rfl) p.top rfl rfl (fun vs H Q E h => ?_) rfl (fun L => ⟨_, rfl⟩) (fun _ => rfl) (fun _ => rfl) (fun vs H Q E h => ?_) (fun A outer s H vs Q E hr h => ?_), ?_, S⟩⟩
  · exact len_spFld h
  · obtain ⟨a, ys, rfl, _, ha, _⟩ := h
    exact ⟨a, _, rfl, ha⟩
  · obtain ⟨a, ys, rfl, hl, ha, k⟩ := h
    obtain ⟨v0, rfl⟩ := len1 hl
    refine ⟨_, (pss_one (ps_ost (pv 0) (pv 1))), ?_⟩
    exact ⟨_, rfl, _, rfl, a, _, rfl, S.oex, n _ (by decide +kernel), .inl ⟨ha, fun dx n1 n2 => (fun z1 => k dx _ n1 n2 z1.1 z1.2.1 z1.2.2) (fld_new (H := H) (C := ga K "SameName") (f := "name") (v := v0) n2)⟩⟩
  · obtain ⟨oc, od, doc, pm, ctv, an, osl, rfl, lk⟩ := S.lk
    exact Binds.all fun us hl => match us, hl with | [_, _], _ => rfl
abbrev d_TooShort : SupD := ⟨"TooShort", "TooShort.__init__", defArgs iTooShort, defBody iTooShort, defScope iTooShort, ["program"]⟩
theorem nsc_TooShort : NScope ["self", "program", "__class__"] ["self", "program"] ["__class__"] (defScope iTooShort) := nscope_by (by decide +kernel)
theorem f_TooShort (T : Tx sx K mg) (p : Pok P) : SupF P w K mg base d_TooShort ["self", "program"] (spFld (ga K "TooShort") ["program"]) := by
  obtain ⟨⟨fd, S⟩, X, n⟩ := T.sup 12 (P := P) (d := d_TooShort) p.file rfl
  refine ⟨⟨fd, fn_super (N := ["self", "program", "__class__"]) nsc_TooShort S (T.free "super") (by rfl) p.top rfl rfl (fun vs H Q E h => ?_) rfl (fun L => ⟨_, rfl⟩) (fun _ => rfl) (fun _ => rfl) (fun vs H Q E h => ?_) (fun A outer s H vs Q E hr h => ?_), ?_, S⟩⟩
  · exact len_spFld h
  · obtain ⟨a, ys, rfl, _, ha, _⟩ := h
    exact ⟨a, _, rfl, ha⟩
  · obtain ⟨a, ys, rfl, hl, ha, k⟩ := h
    obtain ⟨v0, rfl⟩ := len1 hl
    refine ⟨_, (pss_one (ps_ost (pv 0) (pv 1))), ?_⟩
    exact ⟨_, rfl, _, rfl, a, _, rfl, S.oex, n _ (by decide +kernel), .inl ⟨ha, fun dx n1 n2 => (fun z1 => k dx _ n1 n2 z1.1 z1.2.1 z1.2.2) (fld_new (H := H) (C := ga K "TooShort") (f := "program") (v := v0) n2)⟩⟩
  · obtain ⟨oc, od, doc, pm, ctv, an, osl, rfl, lk⟩ := S.lk
    exact Binds.all fun us hl => match us, hl with | [_, _], _ => rfl
end
end K24

set_option maxHeartbeats 4000000
namespace Sa
open PySem PySem.Spec PyProof.Rows L2 He NdefX
theorem Same.seqL {K : PySem.W.Frag} {a : Addr} {H H' : Hp} {xs : List V} (k : Same H H') (h : SqL K H a xs) : SqL K H' a xs := by
  rcases h with (h | ⟨o, h⟩) | h
  · exact .inl (.inl (k _ _ h))
  · exact .inl (.inr ⟨o, k _ _ h⟩)
  · exact .inr h
theorem Same.rdk {a : Addr} {H H' : Hp} {u : HO} (k : Same H H') (h : Rd H a u) : Rd H' a u := by
  rcases h with h | ⟨o, h⟩
  · exact .inl (k _ _ h)
  · exact .inr ⟨o, k _ _ h⟩
section
variable {K : PySem.W.Frag} {H H' : Hp}
mutual
theorem Dq.same (s : Same H H') : ∀ (d : PyData) (v : V), Dq K H v d → Dq K H' v d
  | .none, _, h => by
    cases h
    exact .non
  | .bool b, _, h => by
    cases h
    exact .bl _
  | .int i, _, h => by
    cases h
    exact .int _
  | .str x, _, h => by
    cases h
    exact .str _
  | .list ds, _, h => by
    cases h with
    | lst hs ha => exact .lst (Same.seqL s hs) (Dq.sameAll s ds _ ha)
  | .tuple ds, _, h => by
    cases h with
    | tup hs ha => exact .tup (Same.seqT s hs) (Dq.sameAll s ds _ ha)
  | .dict ds, _, h => by
    cases h with
    | dct hs hk => exact .dct (Same.rdk s hs) (Dq.sameKv s ds _ hk)
theorem Dq.sameAll (s : Same H H') : ∀ (ds : List PyData) (vs : List V), DqAll K H vs ds → DqAll K H' vs ds
  | [], _, h => by
    cases h
    exact .nil
  | d :: ds, _, h => by
    cases h with
    | cons h1 h2 => exact .cons (Dq.same s d _ h1) (Dq.sameAll s ds _ h2)
theorem Dq.sameKv (s : Same H H') : ∀ (ds : List (PyData × PyData)) (kvs : List (Key × V)), DqKv K H kvs ds → DqKv K H' kvs ds
  | [], _, h => by
    cases h
    exact .nil
  | (dk, d) :: ds, _, h => by
    cases h with
    | cons h1 h2 => exact .cons (Dq.same s d _ h1) (Dq.sameKv s ds _ h2)
end
end
/-- repr may be asked of it -/
def okD (d : PyData) : Bool := d.showable && (decide (d.depth < 60) && decide (d.shown.length ≤ sizeLine))
/-- t is (an error of class C, a list of data, a list of the same data) -/
def Row (K : PySem.W.Frag) (H : Hp) (t C : Addr) : Prop := ∃ e l m d, SqT K H t [.ref e, .ref l, .ref m] ∧ ErrAt H e C ∧ Dq K H (.ref l) d ∧ Dq K H (.ref m) d ∧ okD d = true
theorem Row.same {K : PySem.W.Frag} {H H' : Hp} {t C : Addr} (s : Same H H') (r : Row K H t C) : Row K H' t C := by
  obtain ⟨e, l, m, d, h1, h2, h3, h4, h5⟩ := r
  exact ⟨e, l, m, d, Same.seqT s h1, Same.errAt s h2, Dq.same s _ _ h3, Dq.same s _ _ h4, h5⟩
inductive Rows (K : PySem.W.Frag) (H : Hp) : List Addr → List Addr → Prop
  | nil : Rows K H [] []
  | cons {a C : Addr} {as Cs : List Addr} : Row K H a C → Rows K H as Cs → Rows K H (a :: as) (C :: Cs)
theorem Rows.same {K : PySem.W.Frag} {H H' : Hp} (s : Same H H') : ∀ {as Cs : List Addr}, Rows K H as Cs → Rows K H' as Cs
  | _, _, .nil => .nil
  | _, _, .cons h r => .cons (Row.same s h) (Rows.same s r)
theorem Rows.snoc {K : PySem.W.Frag} {H : Hp} : ∀ {as Cs : List Addr} {a C : Addr}, Rows K H as Cs → Row K H a C → Rows K H (as ++ [a]) (Cs ++ [C])
  | _, _, _, _, .nil, r => .cons r .nil
  | _, _, _, _, .cons h q, r => .cons h (Rows.snoc q r)
theorem Rows.length {K : PySem.W.Frag} {H : Hp} : ∀ {as Cs : List Addr}, Rows K H as Cs → as.length = Cs.length
  | _, _, .nil => by simp
  | _, _, .cons _ r => by simp [Rows.length r]
theorem Rows.get {K : PySem.W.Frag} {H : Hp} : ∀ {as Cs : List Addr}, Rows K H as Cs → ∀ (i : Nat) (a : Addr), as[i]? = some a → ∃ C, Cs[i]? = some C ∧ Row K H a C
  | _, _, .nil, i, a, h => by simp at h
  | _, _, .cons (a := b) (C := C) h r, 0, a, e => by
    have z : b = a := Option.some.inj e
    exact ⟨C, rfl, by rw [← z]; exact h⟩
  | _, _, .cons h r, i + 1, a, e => by
    rw [List.getElem?_cons_succ] at e ⊢
    exact Rows.get r i a e
theorem del_sub {H : Hp} {p : Addr} : Same (del H p) H := fun b o e => by
  by_cases h : b = p
  · rw [h, del_same] at e
    cases e
  · rw [del_ne h] at e
    exact e
theorem del_mono {H H' : Hp} {p : Addr} (s : Same H H') : Same (del H p) (del H' p) := fun b o e => by
  by_cases h : b = p
  · rw [h, del_same] at e
    cases e
  · rw [del_ne h] at e ⊢
    exact s b o e
theorem del_upd {H : Hp} {p : Addr} {o : HO} : del (upd H p o) p = del H p := by
  funext b
  by_cases h : b = p
  · rw [h, del_same, del_same]
  · rw [del_ne h, del_ne h, upd_ne h]
/-- what stands while the rows are gathered in the list at p -/
structure Told (K : PySem.W.Frag) (H0 H : Hp) (p : Addr) (v1 v2 : V) (d1 d2 : PyData) (Cs : List Addr) : Prop where
  np : H0 p = none
  old : Same H0 (del H p)
  rows : ∃ ts, H p = some (.lst (ts.map V.ref)) ∧ Rows K (del H p) ts Cs
  one : Dq K (del H p) v1 d1
  two : Dq K (del H p) v2 d2
/-- found.append((error, [error.f], [one])) -/
abbrev tApp1 (K : PySem.W.Frag) (f : Str) : TS := tDrop (tBM K "list" rAppend (tVar 2) (tCons (tTup (tCons (tVar 3) (tCons (tLst (tCons (tXat K f (tVar 3)) tNil)) (tCons (tLst (tCons (tVar 0) tNil)) tNil)))) tNil))
/-- one row more -/
theorem s_row1 {K : PySem.W.Frag} {H0 H : Hp} {p : Addr} {v1 v2 : V} {d1 d2 : PyData} {Cs : List Addr} {C : Addr} {f : Str} {D : Ends} {x : Option V} {R : TS} (W : Told K H0 H p v1 v2 d1 d2 Cs) (hl : Cs.length ≤ 1000)
    (T : XfC K C) (hno : PySem.W.findIn K (.ref C) f = some none) (ok : okD (.list [d1]) = true)
    (k : ∀ H' y, Told K H0 H' p v1 v2 d1 d2 (Cs ++ [C]) → R D [some v1, some v2, some (.ref p), y] H') :
    tSeq (tAsg (tNewO C (spFld C [f]) (tCons (tVar 0) tNil)) (gName 3)) (tSeq (tApp1 K f) R) D [some v1, some v2, some (.ref p), x] H := by
  obtain ⟨np, old, ⟨ts, hp, rows⟩, one, two⟩ := W
  refine ⟨_, rfl, new_fld (C := C) (fs := [f]) (H := H) (vs := [v1]) (Q := fun y H1 => tSeq (tApp1 K f) R D [some v1, some v2, some (.ref p), some y] H1) rfl (by show 1 ≤ 1000; decide) fun a dx H1 ha s1 e1 e2 => ?_⟩
  have hp1 := s1 _ _ hp
  refine ⟨_, rfl, .inl ⟨rfl, _, .inl (.inl hp1)⟩, _, rfl, _, rfl, a, C, dx, _, v1, rfl, e1, e2, T, hno, ?_, by show 1 ≤ sizeLine; decide, fun l hl1 => ?_⟩
  · simp
  have s2 := Same.trans s1 (Same.new (o := .lst [v1]) hl1)
  refine ⟨_, rfl, by show 1 ≤ sizeLine; decide, fun m hm => ?_⟩
  have s3 := Same.trans s2 (Same.new (o := .lst [v1]) hm)
  refine ⟨by show 3 ≤ sizeLine; decide, fun t ht => ?_⟩
  have s4 := Same.trans s3 (Same.new (o := .tup [.ref a, .ref l, .ref m]) ht)
  have z4 := Same.trans (Same.trans (Same.new (o := .lst [v1]) hl1) (Same.new (o := .lst [v1]) hm)) (Same.new (o := .tup [.ref a, .ref l, .ref m]) ht)
  have ea4 := z4 _ _ e1
  have ed4 := z4 _ _ e2
  have nlp : l ≠ p := (ne_of_none hp1 hl1).symm
  have nmp : m ≠ p := (ne_of_none (Same.new (o := .lst [v1]) hl1 _ _ hp1) hm).symm
  have nlm : l ≠ m := ne_of_none upd_same hm
  have hl4 : upd (upd (upd H1 l (.lst [v1])) m (.lst [v1])) t (.tup [.ref a, .ref l, .ref m]) l = some (.lst [v1]) := Same.trans (Same.new hm) (Same.new ht) _ _ upd_same
  have hm4 : upd (upd (upd H1 l (.lst [v1])) m (.lst [v1])) t (.tup [.ref a, .ref l, .ref m]) m = some (.lst [v1]) := Same.new ht _ _ upd_same
  have ht4 : upd (upd (upd H1 l (.lst [v1])) m (.lst [v1])) t (.tup [.ref a, .ref l, .ref m]) t = some (.tup [.ref a, .ref l, .ref m]) := upd_same
  have hp4 := s4 _ _ hp
  generalize upd (upd (upd H1 l (.lst [v1])) m (.lst [v1])) t (.tup [.ref a, .ref l, .ref m]) = H4 at *
  refine ⟨p, _, .ref t, rfl, rfl, hp4, ?_, ?_⟩
  · rw [List.length_map, rows.length]
    exact small1000 hl
  have nap : ∀ {b o}, H4 b = some o → (∀ xs, o ≠ .lst xs) → b ≠ p := fun h1 h2 => ne_of h1 hp4 (h2 _)
  refine k _ _ ⟨np, ?_, ⟨ts ++ [t], by rw [upd_same, List.map_append]; rfl, ?_⟩, ?_, ?_⟩
  · rw [del_upd]
    exact Same.trans old (del_mono s4)
  · rw [del_upd]
    refine Rows.snoc (Rows.same (del_mono s4) rows) ⟨a, l, m, .list [d1], ?_, ?_, ?_, ?_, ok⟩
    · exact .inl (.inl (by rw [del_ne (ne_of ht4 hp4 (fun e => by cases e))]; exact ht4))
    · refine .full (dx := dx) (fs := ([f].zip [v1]).reverse) ?_ ?_
      · rw [del_ne (ne_of ea4 hp4 (fun e => by cases e))]
        exact ea4
      · rw [del_ne (ne_of ed4 hp4 (fun e => by cases e))]
        exact ed4
    · exact .lst (.inl (.inl (by rw [del_ne nlp]; exact hl4))) (.cons (Dq.same (del_mono s4) _ _ one) .nil)
    · exact .lst (.inl (.inl (by rw [del_ne nmp]; exact hm4))) (.cons (Dq.same (del_mono s4) _ _ one) .nil)
  · rw [del_upd]
    exact Dq.same (del_mono s4) _ _ one
  · rw [del_upd]
    exact Dq.same (del_mono s4) _ _ two
abbrev tApp3 (K : PySem.W.Frag) (f g h : Str) : TS := tDrop (tBM K "list" rAppend (tVar 2) (tCons (tTup (tCons (tVar 3) (tCons (tLst (tCons (tXat K f (tVar 3)) (tCons (tXat K g (tVar 3)) (tCons (tXat K h (tVar 3)) tNil))))
  (tCons (tLst (tCons (tVar 0) (tCons (tVar 1) (tCons (tTup (tCons (tVar 0) (tCons (tVar 1) tNil))) tNil)))) tNil)))) tNil))
theorem s_row3 {K : PySem.W.Frag} {H0 H : Hp} {p : Addr} {v1 v2 : V} {d1 d2 : PyData} {Cs : List Addr} {C : Addr} {f g h : Str} {D : Ends} {x : Option V} {R : TS} (W : Told K H0 H p v1 v2 d1 d2 Cs) (hl : Cs.length ≤ 1000)
    (T : XfC K C) (hf : PySem.W.findIn K (.ref C) f = some none) (hg : PySem.W.findIn K (.ref C) g = some none) (hh : PySem.W.findIn K (.ref C) h = some none) (n1 : f ≠ g) (n2 : f ≠ h) (n3 : g ≠ h) (ok : okD (.list [d1, d2, .tuple [d1, d2]]) = true)
    (k : ∀ H' y, Told K H0 H' p v1 v2 d1 d2 (Cs ++ [C]) → R D [some v1, some v2, some (.ref p), y] H') :
    tSeq (tAsg (tNewO C (spFld C [f, g, h]) (tCons (tVar 0) (tCons (tVar 1) (tCons (tTup (tCons (tVar 0) (tCons (tVar 1) tNil))) tNil)))) (gName 3)) (tSeq (tApp3 K f g h) R) D [some v1, some v2, some (.ref p), x] H := by
  obtain ⟨np, old, ⟨ts, hp, rows⟩, one, two⟩ := W
  refine ⟨_, rfl, _, rfl, _, rfl, _, rfl, by show 2 ≤ sizeLine; decide, fun q hq => ?_⟩
  have s0 := Same.new (o := .tup [v1, v2]) hq
  have hq0 : upd H q (.tup [v1, v2]) q = some (.tup [v1, v2]) := upd_same
  have hp0 := s0 _ _ hp
  generalize upd H q (.tup [v1, v2]) = H0' at *
  refine new_fld (C := C) (fs := [f, g, h]) (H := H0') (vs := [v1, v2, .ref q]) (Q := fun y H1 => tSeq (tApp3 K f g h) R D [some v1, some v2, some (.ref p), some y] H1) rfl (by show 3 ≤ 1000; decide) fun a dx H1 ha s1 e1 e2 => ?_
  have hp1 := s1 _ _ hp0
  have hq1 := s1 _ _ hq0
  have l1 : ([f, g, h].zip [v1, v2, V.ref q]).reverse.lookup f = some v1 := by
    show List.lookup f [(h, V.ref q), (g, v2), (f, v1)] = some v1
    simp [List.lookup, n1, n2, beq_false_of_ne n1, beq_false_of_ne n2]
  have l2 : ([f, g, h].zip [v1, v2, V.ref q]).reverse.lookup g = some v2 := by
    show List.lookup g [(h, V.ref q), (g, v2), (f, v1)] = some v2
    simp [List.lookup, n3, beq_false_of_ne n3]
  have l3 : ([f, g, h].zip [v1, v2, V.ref q]).reverse.lookup h = some (.ref q) := by
    show List.lookup h [(h, V.ref q), (g, v2), (f, v1)] = some (.ref q)
    simp [List.lookup]
  refine ⟨_, rfl, .inl ⟨rfl, _, .inl (.inl hp1)⟩, _, rfl, _, rfl, a, C, dx, _, v1, rfl, e1, e2, T, hf, l1, _, rfl, a, C, dx, _, v2, rfl, e1, e2, T, hg, l2, _, rfl, a, C, dx, _, .ref q, rfl, e1, e2, T, hh, l3, by show 3 ≤ sizeLine; decide, fun l hl1 => ?_⟩
  have s2 := Same.trans s1 (Same.new (o := .lst [v1, v2, .ref q]) hl1)
  have hl2 : upd H1 l (.lst [v1, v2, .ref q]) l = some (.lst [v1, v2, .ref q]) := upd_same
  have z2 := Same.new (o := .lst [v1, v2, .ref q]) hl1
  have nlp : l ≠ p := (ne_of_none hp1 hl1).symm
  generalize upd H1 l (.lst [v1, v2, .ref q]) = H2 at *
  refine ⟨_, rfl, _, rfl, _, rfl, _, rfl, by show 2 ≤ sizeLine; decide, fun r hr => ?_⟩
  have s3 := Same.trans s2 (Same.new (o := .tup [v1, v2]) hr)
  have z3 := Same.trans z2 (Same.new (o := .tup [v1, v2]) hr)
  have hr3 : upd H2 r (.tup [v1, v2]) r = some (.tup [v1, v2]) := upd_same
  have hl3 := Same.new (o := .tup [v1, v2]) hr _ _ hl2
  generalize upd H2 r (.tup [v1, v2]) = H3 at *
  refine ⟨by show 3 ≤ sizeLine; decide, fun m hm => ?_⟩
  have s4 := Same.trans s3 (Same.new (o := .lst [v1, v2, .ref r]) hm)
  have z4 := Same.trans z3 (Same.new (o := .lst [v1, v2, .ref r]) hm)
  have hm4 : upd H3 m (.lst [v1, v2, .ref r]) m = some (.lst [v1, v2, .ref r]) := upd_same
  have hl4 := Same.new (o := .lst [v1, v2, .ref r]) hm _ _ hl3
  have hr4 := Same.new (o := .lst [v1, v2, .ref r]) hm _ _ hr3
  have nmp : m ≠ p := (ne_of_none (z3 _ _ hp1) hm).symm
  generalize upd H3 m (.lst [v1, v2, .ref r]) = H4 at *
  refine ⟨by show 3 ≤ sizeLine; decide, fun t ht => ?_⟩
  have s5 := Same.trans (Same.trans s0 s4) (Same.new (o := .tup [.ref a, .ref l, .ref m]) ht)
  have z5 := Same.trans z4 (Same.new (o := .tup [.ref a, .ref l, .ref m]) ht)
  have ht5 : upd H4 t (.tup [.ref a, .ref l, .ref m]) t = some (.tup [.ref a, .ref l, .ref m]) := upd_same
  have hl5 := Same.new (o := .tup [.ref a, .ref l, .ref m]) ht _ _ hl4
  have hr5 := Same.new (o := .tup [.ref a, .ref l, .ref m]) ht _ _ hr4
  have hm5 := Same.new (o := .tup [.ref a, .ref l, .ref m]) ht _ _ hm4
  generalize upd H4 t (.tup [.ref a, .ref l, .ref m]) = H5 at *
  have ea5 := z5 _ _ e1
  have ed5 := z5 _ _ e2
  have hp5 := z5 _ _ hp1
  have hq5 := z5 _ _ hq1
  refine ⟨p, _, .ref t, rfl, rfl, hp5, ?_, ?_⟩
  · rw [List.length_map, rows.length]
    exact small1000 hl
  have D1 := Dq.same (del_mono (p := p) s5) _ _ one
  have D2 := Dq.same (del_mono (p := p) s5) _ _ two
  refine k _ _ ⟨np, ?_, ⟨ts ++ [t], by rw [upd_same, List.map_append]; rfl, ?_⟩, by rw [del_upd]; exact D1, by rw [del_upd]; exact D2⟩
  · rw [del_upd]
    exact Same.trans old (del_mono s5)
  · rw [del_upd]
    refine Rows.snoc (Rows.same (del_mono s5) rows) ⟨a, l, m, .list [d1, d2, .tuple [d1, d2]], ?_, ?_, ?_, ?_, ok⟩
    · exact .inl (.inl (by rw [del_ne (ne_of ht5 hp5 (fun e => by cases e))]; exact ht5))
    · refine .full (dx := dx) (fs := ([f, g, h].zip [v1, v2, V.ref q]).reverse) ?_ ?_
      · rw [del_ne (ne_of ea5 hp5 (fun e => by cases e))]
        exact ea5
      · rw [del_ne (ne_of ed5 hp5 (fun e => by cases e))]
        exact ed5
    · exact .lst (.inl (.inl (by rw [del_ne nlp]; exact hl5))) (.cons D1 (.cons D2 (.cons (.tup (.inl (.inl (by rw [del_ne (ne_of hq5 hp5 (fun e => by cases e))]; exact hq5))) (.cons D1 (.cons D2 .nil))) .nil)))
    · exact .lst (.inl (.inl (by rw [del_ne nmp]; exact hm5))) (.cons D1 (.cons D2 (.cons (.tup (.inl (.inl (by rw [del_ne (ne_of hr5 hp5 (fun e => by cases e))]; exact hr5))) (.cons D1 (.cons D2 .nil))) .nil)))
end Sa

set_option maxHeartbeats 4000000
namespace Sa
open PySem PySem.Spec PyProof.Rows L2 He NdefX
theorem Tx.sup_xf {sp : Sx} {K : PySem.W.Frag} {mg : Str → Option Value} {P : Program} {d : SupD} (T : Tx sp K mg) (hf : P.main.file = theFile) (i : Nat) (h : sp.sups[i]? = some d) :
    XfC K (ga K d.cls) ∧ ∀ f ∈ d.flds, PySem.W.findIn K (.ref (ga K d.cls)) f = some none := by
  obtain ⟨_, X, n⟩ := T.sup i hf h
  exact ⟨ExcC.xf X, n⟩
end Sa
namespace K24
open PySem PySem.Spec PyProof.Rows L2 He Sa NdefX
def told : List Str := ["BadBits", "BadDocuments", "BadHistories", "BadLaws", "BadPaper", "BadText", "NotPossible", "NotRight", "NotTrue", "OverAsks", "Parted", "SameName", "TooShort"]
/-- the ten things that are picked from -/
def dataL : List PyData := [.none, .int 0, .int (-7), .str "x", .str "", .tuple [.int 1, .int 2], .list [.int 3], .dict [(.str "a", .int 4)], .bool true, .int (10 ^ 20)]
theorem data_ok : (dataL.all fun a => okD (.list [a]) && dataL.all fun b => okD (.list [a, b, .tuple [a, b]])) = true := by decide +kernel
section
variable {P : Program} {w : World} {K : PySem.W.Frag} {mg : Str → Option Value} {base : Heap}
abbrev Ntold_errors : List Str := ["_law_one", "_law_other", "_law_found", "_law_error"]
theorem sctold_errors : FnScope Ntold_errors ["_law_one", "_law_other"] (defScope stold_errors) := ⟨rfl, rfl, rfl, by decide +kernel, rfl, by decide +kernel, by decide +kernel⟩
def spTold (K : PySem.W.Frag) : Sp := fun vs H Q _ => ∃ (v1 v2 : V) (d1 d2 : PyData), vs = [v1, v2] ∧ Dq K H v1 d1 ∧ Dq K H v2 d2 ∧ d1 ∈ dataL ∧ d2 ∈ dataL ∧
  ∀ p ts H', Same H H' → H p = none → H' p = some (.lst (ts.map V.ref)) → Rows K H' ts (told.map (ga K)) → Q (.ref p) H'
theorem c_told (T : Tx sx K mg) (p : Pok P) : Cal P w K mg base "_law_told_errors" 3 ["_law_one", "_law_other"] (spTold K) := by
  refine T.cal 5 rfl (by decide +kernel) sctold_errors (fun vs H Q E h => ?_) (fun _ _ _ _ _ _ us hl => match us, hl with | [_, _], _ => rfl) (fun cdv A outer s H vs Q E hr h => ?_)
  · obtain ⟨v1, v2, d1, d2, rfl, _⟩ := h
    rfl
  · obtain ⟨v1, v2, d1, d2, rfl, h1, h2, m1, m2, k⟩ := h
    have ok1 : okD (.list [d1]) = true := (ba (List.all_eq_true.mp data_ok d1 m1)).1
    have ok3 : okD (.list [d1, d2, .tuple [d1, d2]]) = true := List.all_eq_true.mp (ba (List.all_eq_true.mp data_ok d1 m1)).2 d2 m2
    refine ⟨_, (pss_cons (ps_set (i := 2) sctold_errors.nd rfl (Or.inl rfl) (pe_lst pa_nil))
    (pss_cons (ps_set (i := 3) sctold_errors.nd rfl (Or.inl rfl) (pe_sup (f_BadBits T p) T hr (pa_cons (pv 0) pa_nil)))
    (pss_cons (ps_expr (pe_bm PySem.F.plainAttrs_list PySem.F.slot_list_append PySem.F.type_list_append mt_append (pv 2) (pa_cons (pe_tup (pa_cons (pv 3) (pa_cons (pe_lst (pa_cons (pe_xat (pv 3)) pa_nil)) (pa_cons (pe_lst (pa_cons (pv 0) pa_nil)) pa_nil)))) pa_nil)))
    (pss_cons (ps_set (i := 3) sctold_errors.nd rfl (Or.inl rfl) (pe_sup (f_BadDocuments T p) T hr (pa_cons (pv 0) pa_nil)))
    (pss_cons (ps_expr (pe_bm PySem.F.plainAttrs_list PySem.F.slot_list_append PySem.F.type_list_append mt_append (pv 2) (pa_cons (pe_tup (pa_cons (pv 3) (pa_cons (pe_lst (pa_cons (pe_xat (pv 3)) pa_nil)) (pa_cons (pe_lst (pa_cons (pv 0) pa_nil)) pa_nil)))) pa_nil)))
    (pss_cons (ps_set (i := 3) sctold_errors.nd rfl (Or.inl rfl) (pe_sup (f_BadHistories T p) T hr (pa_cons (pv 0) pa_nil)))
    (pss_cons (ps_expr (pe_bm PySem.F.plainAttrs_list PySem.F.slot_list_append PySem.F.type_list_append mt_append (pv 2) (pa_cons (pe_tup (pa_cons (pv 3) (pa_cons (pe_lst (pa_cons (pe_xat (pv 3)) pa_nil)) (pa_cons (pe_lst (pa_cons (pv 0) pa_nil)) pa_nil)))) pa_nil)))
    (pss_cons (ps_set (i := 3) sctold_errors.nd rfl (Or.inl rfl) (pe_sup (f_BadLaws T p) T hr (pa_cons (pv 0) pa_nil)))
    (pss_cons (ps_expr (pe_bm PySem.F.plainAttrs_list PySem.F.slot_list_append PySem.F.type_list_append mt_append (pv 2) (pa_cons (pe_tup (pa_cons (pv 3) (pa_cons (pe_lst (pa_cons (pe_xat (pv 3)) pa_nil)) (pa_cons (pe_lst (pa_cons (pv 0) pa_nil)) pa_nil)))) pa_nil)))
    (pss_cons (ps_set (i := 3) sctold_errors.nd rfl (Or.inl rfl) (pe_sup (f_BadPaper T p) T hr (pa_cons (pv 0) pa_nil)))
    (pss_cons (ps_expr (pe_bm PySem.F.plainAttrs_list PySem.F.slot_list_append PySem.F.type_list_append mt_append (pv 2) (pa_cons (pe_tup (pa_cons (pv 3) (pa_cons (pe_lst (pa_cons (pe_xat (pv 3)) pa_nil)) (pa_cons (pe_lst (pa_cons (pv 0) pa_nil)) pa_nil)))) pa_nil)))
    (pss_cons (ps_set (i := 3) sctold_errors.nd rfl (Or.inl rfl) (pe_sup (f_BadText T p) T hr (pa_cons (pv 0) (pa_cons (pv 1) (pa_cons (pe_tup (pa_cons (pv 0) (pa_cons (pv 1) pa_nil))) pa_nil)))))
    (pss_cons (ps_expr (pe_bm PySem.F.plainAttrs_list PySem.F.slot_list_append PySem.F.type_list_append mt_append (pv 2) (pa_cons (pe_tup (pa_cons (pv 3) (pa_cons (pe_lst (pa_cons (pe_xat (pv 3)) (pa_cons (pe_xat (pv 3)) (pa_cons (pe_xat (pv 3)) pa_nil)))) (pa_cons (pe_lst (pa_cons (pv 0) (pa_cons (pv 1) (pa_cons (pe_tup (pa_cons (pv 0) (pa_cons (pv 1) pa_nil))) pa_nil)))) pa_nil)))) pa_nil)))
    (pss_cons (ps_set (i := 3) sctold_errors.nd rfl (Or.inl rfl) (pe_sup (f_NotPossible T p) T hr (pa_cons (pv 0) pa_nil)))
    (pss_cons (ps_expr (pe_bm PySem.F.plainAttrs_list PySem.F.slot_list_append PySem.F.type_list_append mt_append (pv 2) (pa_cons (pe_tup (pa_cons (pv 3) (pa_cons (pe_lst (pa_cons (pe_xat (pv 3)) pa_nil)) (pa_cons (pe_lst (pa_cons (pv 0) pa_nil)) pa_nil)))) pa_nil)))
    (pss_cons (ps_set (i := 3) sctold_errors.nd rfl (Or.inl rfl) (pe_sup (f_NotRight T p) T hr (pa_cons (pv 0) pa_nil)))
    (pss_cons (ps_expr (pe_bm PySem.F.plainAttrs_list PySem.F.slot_list_append PySem.F.type_list_append mt_append (pv 2) (pa_cons (pe_tup (pa_cons (pv 3) (pa_cons (pe_lst (pa_cons (pe_xat (pv 3)) pa_nil)) (pa_cons (pe_lst (pa_cons (pv 0) pa_nil)) pa_nil)))) pa_nil)))
    (pss_cons (ps_set (i := 3) sctold_errors.nd rfl (Or.inl rfl) (pe_sup (f_NotTrue T p) T hr (pa_cons (pv 0) pa_nil)))
    (pss_cons (ps_expr (pe_bm PySem.F.plainAttrs_list PySem.F.slot_list_append PySem.F.type_list_append mt_append (pv 2) (pa_cons (pe_tup (pa_cons (pv 3) (pa_cons (pe_lst (pa_cons (pe_xat (pv 3)) pa_nil)) (pa_cons (pe_lst (pa_cons (pv 0) pa_nil)) pa_nil)))) pa_nil)))
    (pss_cons (ps_set (i := 3) sctold_errors.nd rfl (Or.inl rfl) (pe_sup (f_OverAsks T p) T hr (pa_cons (pv 0) pa_nil)))
    (pss_cons (ps_expr (pe_bm PySem.F.plainAttrs_list PySem.F.slot_list_append PySem.F.type_list_append mt_append (pv 2) (pa_cons (pe_tup (pa_cons (pv 3) (pa_cons (pe_lst (pa_cons (pe_xat (pv 3)) pa_nil)) (pa_cons (pe_lst (pa_cons (pv 0) pa_nil)) pa_nil)))) pa_nil)))
    (pss_cons (ps_set (i := 3) sctold_errors.nd rfl (Or.inl rfl) (pe_sup (f_Parted T p) T hr (pa_cons (pv 0) pa_nil)))
    (pss_cons (ps_expr (pe_bm PySem.F.plainAttrs_list PySem.F.slot_list_append PySem.F.type_list_append mt_append (pv 2) (pa_cons (pe_tup (pa_cons (pv 3) (pa_cons (pe_lst (pa_cons (pe_xat (pv 3)) pa_nil)) (pa_cons (pe_lst (pa_cons (pv 0) pa_nil)) pa_nil)))) pa_nil)))
    (pss_cons (ps_set (i := 3) sctold_errors.nd rfl (Or.inl rfl) (pe_sup (f_SameName T p) T hr (pa_cons (pv 0) pa_nil)))
    (pss_cons (ps_expr (pe_bm PySem.F.plainAttrs_list PySem.F.slot_list_append PySem.F.type_list_append mt_append (pv 2) (pa_cons (pe_tup (pa_cons (pv 3) (pa_cons (pe_lst (pa_cons (pe_xat (pv 3)) pa_nil)) (pa_cons (pe_lst (pa_cons (pv 0) pa_nil)) pa_nil)))) pa_nil)))
    (pss_cons (ps_set (i := 3) sctold_errors.nd rfl (Or.inl rfl) (pe_sup (f_TooShort T p) T hr (pa_cons (pv 0) pa_nil)))
    (pss_cons (ps_expr (pe_bm PySem.F.plainAttrs_list PySem.F.slot_list_append PySem.F.type_list_append mt_append (pv 2) (pa_cons (pe_tup (pa_cons (pv 3) (pa_cons (pe_lst (pa_cons (pe_xat (pv 3)) pa_nil)) (pa_cons (pe_lst (pa_cons (pv 0) pa_nil)) pa_nil)))) pa_nil)))
    (pss_one (ps_ret (pv 2)))))))))))))))))))))))))))))), ?_⟩
    refine ⟨Nat.zero_le _, fun q hq => ?_⟩
    have W : Told K H (upd H q (.lst [])) q v1 v2 d1 d2 [] := by
      have s0 : Same H (del (upd H q (.lst [])) q) := fun b o e => by
        rw [del_ne (ne_of_none e hq), upd_ne (ne_of_none e hq)]
        exact e
      exact ⟨hq, s0, ⟨[], upd_same, .nil⟩, Dq.same s0 _ _ h1, Dq.same s0 _ _ h2⟩
    have q_BadBits := T.sup_xf p.file 0 rfl
    refine s_row1 (C := ga K "BadBits") (f := "at") W (Nat.le_of_ble_eq_true rfl) q_BadBits.1 (q_BadBits.2 "at" (by decide +kernel)) ok1 fun H' y W => ?_
    clear q_BadBits
    have q_BadDocuments := T.sup_xf p.file 1 rfl
    refine s_row1 (C := ga K "BadDocuments") (f := "at") W (Nat.le_of_ble_eq_true rfl) q_BadDocuments.1 (q_BadDocuments.2 "at" (by decide +kernel)) ok1 fun H' y W => ?_
    clear q_BadDocuments
    have q_BadHistories := T.sup_xf p.file 2 rfl
    refine s_row1 (C := ga K "BadHistories") (f := "at") W (Nat.le_of_ble_eq_true rfl) q_BadHistories.1 (q_BadHistories.2 "at" (by decide +kernel)) ok1 fun H' y W => ?_
    clear q_BadHistories
    have q_BadLaws := T.sup_xf p.file 3 rfl
    refine s_row1 (C := ga K "BadLaws") (f := "at") W (Nat.le_of_ble_eq_true rfl) q_BadLaws.1 (q_BadLaws.2 "at" (by decide +kernel)) ok1 fun H' y W => ?_
    clear q_BadLaws
    have q_BadPaper := T.sup_xf p.file 4 rfl
    refine s_row1 (C := ga K "BadPaper") (f := "word") W (Nat.le_of_ble_eq_true rfl) q_BadPaper.1 (q_BadPaper.2 "word" (by decide +kernel)) ok1 fun H' y W => ?_
    clear q_BadPaper
    have q_BadText := T.sup_xf p.file 5 rfl
    refine s_row3 (C := ga K "BadText") (f := "line") (g := "column") (h := "wanted") W (Nat.le_of_ble_eq_true rfl) q_BadText.1 (q_BadText.2 _ (by decide +kernel)) (q_BadText.2 _ (by decide +kernel)) (q_BadText.2 _ (by decide +kernel)) (by decide) (by decide) (by decide) ok3 fun H' y W => ?_
    clear q_BadText
    have q_NotPossible := T.sup_xf p.file 6 rfl
    refine s_row1 (C := ga K "NotPossible") (f := "at") W (Nat.le_of_ble_eq_true rfl) q_NotPossible.1 (q_NotPossible.2 "at" (by decide +kernel)) ok1 fun H' y W => ?_
    clear q_NotPossible
    have q_NotRight := T.sup_xf p.file 7 rfl
    refine s_row1 (C := ga K "NotRight") (f := "word") W (Nat.le_of_ble_eq_true rfl) q_NotRight.1 (q_NotRight.2 "word" (by decide +kernel)) ok1 fun H' y W => ?_
    clear q_NotRight
    have q_NotTrue := T.sup_xf p.file 8 rfl
    refine s_row1 (C := ga K "NotTrue") (f := "word") W (Nat.le_of_ble_eq_true rfl) q_NotTrue.1 (q_NotTrue.2 "word" (by decide +kernel)) ok1 fun H' y W => ?_
    clear q_NotTrue
    have q_OverAsks := T.sup_xf p.file 9 rfl
    refine s_row1 (C := ga K "OverAsks") (f := "at") W (Nat.le_of_ble_eq_true rfl) q_OverAsks.1 (q_OverAsks.2 "at" (by decide +kernel)) ok1 fun H' y W => ?_
    clear q_OverAsks
    have q_Parted := T.sup_xf p.file 10 rfl
    refine s_row1 (C := ga K "Parted") (f := "word") W (Nat.le_of_ble_eq_true rfl) q_Parted.1 (q_Parted.2 "word" (by decide +kernel)) ok1 fun H' y W => ?_
    clear q_Parted
    have q_SameName := T.sup_xf p.file 11 rfl
    refine s_row1 (C := ga K "SameName") (f := "name") W (Nat.le_of_ble_eq_true rfl) q_SameName.1 (q_SameName.2 "name" (by decide +kernel)) ok1 fun H' y W => ?_
    clear q_SameName
    have q_TooShort := T.sup_xf p.file 12 rfl
    refine s_row1 (C := ga K "TooShort") (f := "program") W (Nat.le_of_ble_eq_true rfl) q_TooShort.1 (q_TooShort.2 "program" (by decide +kernel)) ok1 fun H' y W => ?_
    clear q_TooShort
    obtain ⟨np, old, ⟨ts, hp, rows⟩, _, _⟩ := W
    exact ⟨_, rfl, k q ts _ (Same.trans old del_sub) hq hp (Rows.same del_sub rows)⟩
end
end K24

set_option maxHeartbeats 4000000
namespace K24
open PySem PySem.Spec PyProof.Rows L2 He Sa NdefX
def cl0 : List Str := ["BadAnswer", "BadAnswers", "BadBit", "BadBits", "BadCall"]
def cl1 : List Str := ["BadClause", "BadCount", "BadDocument", "BadDocuments", "BadFuture"]
def cl2 : List Str := ["BadGroup", "BadHistories", "BadHistory", "BadHouse", "BadIndex"]
def cl3 : List Str := ["BadLaw", "BadLaws", "BadLeft", "BadLimit", "BadMany"]
def cl4 : List Str := ["BadMeaning", "BadMost", "BadName", "BadNames", "BadNumber"]
def cl5 : List Str := ["BadOuter", "BadPaper", "BadPool", "BadProgram", "BadPrograms"]
def cl6 : List Str := ["BadScript", "BadSet", "BadStand", "BadState", "BadSuite"]
def cl7 : List Str := ["BadText", "BadThing", "BadWord", "Empty", "Ended"]
def cl8 : List Str := ["ManyObjects", "NoDifference", "NotAsked", "NotDone", "NotEnough"]
def cl9 : List Str := ["NotGuessed", "NotMet", "NotOrderly", "NotPossible", "NotRight"]
def cl10 : List Str := ["NotTrue", "NothingDone", "NothingUndone", "OtherHouse", "OverAsks"]
def cl11 : List Str := ["Parted", "SameName", "Sound", "TooMany", "TooShort"]
def cl12 : List Str := ["Unsound"]
/-- isinstance of an error, of one of the classes -/
def isc (c x : Str) : V := .bl (decide (c = x))
def tIsE (K : PySem.W.Frag) (x : Str) : TE := fun σ H Q => ∃ a c, σ[0]? = some (some (.ref a)) ∧ c ∈ errs ∧ ErrAt H a (ga K c) ∧ Q (isc c x) H
def tIss (K : PySem.W.Frag) : List Str → TA
  | [] => tNil
  | x :: xs => tCons (tIsE K x) (tIss K xs)
theorem iss_ok {K : PySem.W.Frag} {c : Str} {a : Addr} {σ : L2.St} {H : Hp} (hc : c ∈ errs) (he : ErrAt H a (ga K c)) (h0 : σ[0]? = some (some (.ref a))) : ∀ (xs : List Str) {Q : List V → Hp → Prop}, Q (xs.map (isc c)) H → tIss K xs σ H Q
  | [], _, h => h
  | x :: xs, _, h => ⟨a, c, h0, hc, he, iss_ok hc he h0 xs h⟩
section
variable {K : PySem.W.Frag} {c : Str} {a : Addr} {H : Hp} {D : Ends} {x y z : Option V}
theorem c_first {ys : List Str} (hc : c ∈ errs) (he : ErrAt H a (ga K c)) (k : ∀ p H', Same H H' → H p = none → H' p = some (.lst (ys.map (isc c))) → D.nx [some (.ref a), some (.ref p), y, z] H') (hl : ys.length ≤ 1000 := by decide +kernel) :
    tAsg (tLst (tIss K ys)) (gName 1) D [some (.ref a), x, y, z] H := by
  refine iss_ok hc he rfl ys ⟨?_, fun p hp => k p _ (Same.new hp) hp upd_same⟩
  rw [List.length_map]
  exact Nat.le_of_lt (small1000 hl)
theorem c_more {ys zs : List Str} {p : Addr} (hc : c ∈ errs) (he : ErrAt H a (ga K c)) (h : H p = some (.lst (zs.map (isc c)))) (hl : zs.length + ys.length ≤ 1000)
    (k : ∀ q H', Same H H' → H q = none → H' q = some (.lst ((zs ++ ys).map (isc c))) → D.nx [some (.ref a), some (.ref q), y, z] H') : tAsg (tOp rCat (tVar 1) (tLst (tIss K ys))) (gName 1) D [some (.ref a), some (.ref p), y, z] H := by
  refine ⟨_, rfl, iss_ok hc he rfl ys ⟨?_, fun q hq => ?_⟩⟩
  · rw [List.length_map]
    exact Nat.le_of_lt (small1000 (by omega))
  · have npq : p ≠ q := ne_of_none h hq
    refine ⟨p, q, _, _, rfl, rfl, Same.new hq _ _ h, upd_same, ?_, fun r hr => ?_⟩
    · rw [List.length_map, List.length_map]
      exact Nat.le_of_lt (small1000 hl)
    · exact k r _ (Same.trans (Same.new hq) (Same.new hr)) (Same.free (Same.new hq) hr) (by rw [upd_same, List.map_append])
end
section
variable {P : Program} {w : World} {K : PySem.W.Frag} {mg : Str → Option Value} {base : Heap}
theorem pe_is {X : Cx} {x : Str} {p q r pos : Pos} (T : Tx sx X.K X.mg) (Y : chk X.K = true) (h0 : X.N[0]? = some ("_law_error" : Str) := by rfl) (hv : Vis X.env.scope "_law_error" := by exact Or.inl rfl) (hx : x ∈ errs := by decide +kernel) (hg : Gl X "isinstance" := by rfl) (hgx : Gl X x := by rfl) (hdb : (x == ("__debug__" : Str)) = false := by decide)
    (he : starEach [.Name "_law_error" q, .Name x r] X.env = (false, eval (.Name "_law_error" q) X.env) :: starEach [.Name x r] X.env := by rfl) (he2 : starEach [.Name x r] X.env = (false, eval (.Name x r) X.env) :: starEach [] X.env := by rfl) (hpl : (backTo pos (starEach [.Name x r] X.env)).any (·.1) = false := by rfl) :
    PE X (.Call (.Name "isinstance" p) [.Name "_law_error" q, .Name x r] [] pos) (tIsE X.K x) := by
  have hy : x ∈ sx.glos := by
    have z : ∀ x ∈ errs, x ∈ sx.glos := by decide +kernel
    exact z x hx
  have z := pe_callB (pos := pos) (p := p) call_isX hg (T.free "isinstance") (by rfl) (pa_cons (pe_var (pos := q) h0 hv) (pa_cons (pe_glob (pos := r) (v := .ref (ga X.K x)) hgx (T.glo x hy) rfl hdb) pa_nil he2) he) (by decide) (by decide) he hpl
  refine ⟨fun pins s σ H Q I h => z.run pins s σ H Q I ?_⟩
  obtain ⟨a, c, e0, hc, ha, q⟩ := h
  exact ⟨_, e0, a, ga X.K c, _, .ref (ga X.K x), decide (c = x), rfl, ha, ((chk_all Y).1 c hc).2, fun u hu => hu, one_err Y hc hx, q⟩
theorem pas_is {X : Cx} {e : Expr} {es : List Expr} {x : Str} {xs : List Str} (h : PE X e (tIsE X.K x)) (r : PA X es (tIss X.K xs)) (hs : starEach (e :: es) X.env = (false, eval e X.env) :: starEach es X.env := by rfl) : PA X (e :: es) (tIss X.K (x :: xs)) := pa_cons h r hs
theorem pas_is0 {X : Cx} : PA X [] (tIss X.K []) := pa_nil
abbrev Nclasses : List Str := ["_law_error", "_law_found", "_law_k", "_law_is_one"]
theorem scclasses : FnScope Nclasses ["_law_error"] (defScope sclasses) := ⟨rfl, rfl, rfl, by decide +kernel, rfl, by decide +kernel, by decide +kernel⟩
def spClasses (K : PySem.W.Frag) : Sp := fun vs H Q _ => ∃ (a : Addr) (j : Nat) (c : Str), vs = [.ref a] ∧ errs[j]? = some c ∧ ErrAt H a (ga K c) ∧ ∀ p H', Same H H' → H p = none → H' p = some (.lst [.int (j : Nat)]) → Q (.ref p) H'
theorem c_classes (T : Tx sx K mg) (Y : chk K = true) : Cal P w K mg base "_law_classes" 1 ["_law_error"] (spClasses K) := by
  refine T.cal 6 rfl (by decide +kernel) scclasses (fun vs H Q E h => ?_) (fun _ _ _ _ _ _ us hl => match us, hl with | [_], _ => rfl) (fun cdv A outer s H vs Q E hr h => ?_)
  · obtain ⟨a, j, c, rfl, _⟩ := h
    rfl
  · obtain ⟨a, j, c, rfl, hj, he, k⟩ := h
    have hc : c ∈ errs := List.mem_of_getElem? hj
    refine ⟨_, (pss_cons (ps_set (i := 1) scclasses.nd rfl (Or.inl rfl) (pe_lst (pas_is (pe_is T Y) (pas_is (pe_is T Y) (pas_is (pe_is T Y) (pas_is (pe_is T Y) (pas_is (pe_is T Y) pas_is0)))))))
    (pss_cons (ps_set (i := 1) scclasses.nd rfl (Or.inl rfl) (pe_op op_cat (pv 1) (pe_lst (pas_is (pe_is T Y) (pas_is (pe_is T Y) (pas_is (pe_is T Y) (pas_is (pe_is T Y) (pas_is (pe_is T Y) pas_is0))))))))
    (pss_cons (ps_set (i := 1) scclasses.nd rfl (Or.inl rfl) (pe_op op_cat (pv 1) (pe_lst (pas_is (pe_is T Y) (pas_is (pe_is T Y) (pas_is (pe_is T Y) (pas_is (pe_is T Y) (pas_is (pe_is T Y) pas_is0))))))))
    (pss_cons (ps_set (i := 1) scclasses.nd rfl (Or.inl rfl) (pe_op op_cat (pv 1) (pe_lst (pas_is (pe_is T Y) (pas_is (pe_is T Y) (pas_is (pe_is T Y) (pas_is (pe_is T Y) (pas_is (pe_is T Y) pas_is0))))))))
    (pss_cons (ps_set (i := 1) scclasses.nd rfl (Or.inl rfl) (pe_op op_cat (pv 1) (pe_lst (pas_is (pe_is T Y) (pas_is (pe_is T Y) (pas_is (pe_is T Y) (pas_is (pe_is T Y) (pas_is (pe_is T Y) pas_is0))))))))
    (pss_cons (ps_set (i := 1) scclasses.nd rfl (Or.inl rfl) (pe_op op_cat (pv 1) (pe_lst (pas_is (pe_is T Y) (pas_is (pe_is T Y) (pas_is (pe_is T Y) (pas_is (pe_is T Y) (pas_is (pe_is T Y) pas_is0))))))))
    (pss_cons (ps_set (i := 1) scclasses.nd rfl (Or.inl rfl) (pe_op op_cat (pv 1) (pe_lst (pas_is (pe_is T Y) (pas_is (pe_is T Y) (pas_is (pe_is T Y) (pas_is (pe_is T Y) (pas_is (pe_is T Y) pas_is0))))))))
    (pss_cons (ps_set (i := 1) scclasses.nd rfl (Or.inl rfl) (pe_op op_cat (pv 1) (pe_lst (pas_is (pe_is T Y) (pas_is (pe_is T Y) (pas_is (pe_is T Y) (pas_is (pe_is T Y) (pas_is (pe_is T Y) pas_is0))))))))
    (pss_cons (ps_set (i := 1) scclasses.nd rfl (Or.inl rfl) (pe_op op_cat (pv 1) (pe_lst (pas_is (pe_is T Y) (pas_is (pe_is T Y) (pas_is (pe_is T Y) (pas_is (pe_is T Y) (pas_is (pe_is T Y) pas_is0))))))))
    (pss_cons (ps_set (i := 1) scclasses.nd rfl (Or.inl rfl) (pe_op op_cat (pv 1) (pe_lst (pas_is (pe_is T Y) (pas_is (pe_is T Y) (pas_is (pe_is T Y) (pas_is (pe_is T Y) (pas_is (pe_is T Y) pas_is0))))))))
    (pss_cons (ps_set (i := 1) scclasses.nd rfl (Or.inl rfl) (pe_op op_cat (pv 1) (pe_lst (pas_is (pe_is T Y) (pas_is (pe_is T Y) (pas_is (pe_is T Y) (pas_is (pe_is T Y) (pas_is (pe_is T Y) pas_is0))))))))
    (pss_cons (ps_set (i := 1) scclasses.nd rfl (Or.inl rfl) (pe_op op_cat (pv 1) (pe_lst (pas_is (pe_is T Y) (pas_is (pe_is T Y) (pas_is (pe_is T Y) (pas_is (pe_is T Y) (pas_is (pe_is T Y) pas_is0))))))))
    (pss_cons (ps_set (i := 1) scclasses.nd rfl (Or.inl rfl) (pe_op op_cat (pv 1) (pe_lst (pas_is (pe_is T Y) pas_is0))))
    (pss_one (ps_ret (pe_lc (own := [("_law_k", 2), ("_law_is_one", 3)]) (g := gTup K 2 (gCons (gName 2) (gCons (gName 3) gNil))) rfl scclasses.nd (pi_enum (by rfl) (T.free "enumerate") (pa_cons (pv 1) pa_nil)) (blkOk_by (N := Nclasses) (sc := defScope sclasses) (by decide +kernel)) (fun _ _ _ _ _ => (pg_tup rfl (pgs_cons (pg_name (i := 2) scclasses.nd rfl (Or.inl rfl)) (pgs_cons (pg_name (i := 3) scclasses.nd rfl (Or.inl rfl)) pgs_nil)))) (fun _ _ _ _ _ => (pts_one (pt_val (pv 3)))) (fun _ _ _ _ _ => (pv 2)))))))))))))))))), ?_⟩
    refine c_first (ys := cl0) hc he fun p0 H0 s0 n0 h0 => ?_
    refine c_more (ys := cl1) hc (Same.errAt s0 he) h0 (by decide +kernel) fun p1 H1 s1 n1 h1 => ?_
    refine c_more (ys := cl2) hc (Same.errAt (Same.trans s0 s1) he) h1 (by decide +kernel) fun p2 H2 s2 n2 h2 => ?_
    refine c_more (ys := cl3) hc (Same.errAt (Same.trans (Same.trans s0 s1) s2) he) h2 (by decide +kernel) fun p3 H3 s3 n3 h3 => ?_
    refine c_more (ys := cl4) hc (Same.errAt (Same.trans (Same.trans (Same.trans s0 s1) s2) s3) he) h3 (by decide +kernel) fun p4 H4 s4 n4 h4 => ?_
    refine c_more (ys := cl5) hc (Same.errAt (Same.trans (Same.trans (Same.trans (Same.trans s0 s1) s2) s3) s4) he) h4 (by decide +kernel) fun p5 H5 s5 n5 h5 => ?_
    refine c_more (ys := cl6) hc (Same.errAt (Same.trans (Same.trans (Same.trans (Same.trans (Same.trans s0 s1) s2) s3) s4) s5) he) h5 (by decide +kernel) fun p6 H6 s6 n6 h6 => ?_
    refine c_more (ys := cl7) hc (Same.errAt (Same.trans (Same.trans (Same.trans (Same.trans (Same.trans (Same.trans s0 s1) s2) s3) s4) s5) s6) he) h6 (by decide +kernel) fun p7 H7 s7 n7 h7 => ?_
    refine c_more (ys := cl8) hc (Same.errAt (Same.trans (Same.trans (Same.trans (Same.trans (Same.trans (Same.trans (Same.trans s0 s1) s2) s3) s4) s5) s6) s7) he) h7 (by decide +kernel) fun p8 H8 s8 n8 h8 => ?_
    refine c_more (ys := cl9) hc (Same.errAt (Same.trans (Same.trans (Same.trans (Same.trans (Same.trans (Same.trans (Same.trans (Same.trans s0 s1) s2) s3) s4) s5) s6) s7) s8) he) h8 (by decide +kernel) fun p9 H9 s9 n9 h9 => ?_
    refine c_more (ys := cl10) hc (Same.errAt (Same.trans (Same.trans (Same.trans (Same.trans (Same.trans (Same.trans (Same.trans (Same.trans (Same.trans s0 s1) s2) s3) s4) s5) s6) s7) s8) s9) he) h9 (by decide +kernel) fun p10 H10 s10 n10 h10 => ?_
    refine c_more (ys := cl11) hc (Same.errAt (Same.trans (Same.trans (Same.trans (Same.trans (Same.trans (Same.trans (Same.trans (Same.trans (Same.trans (Same.trans s0 s1) s2) s3) s4) s5) s6) s7) s8) s9) s10) he) h10 (by decide +kernel) fun p11 H11 s11 n11 h11 => ?_
    refine c_more (ys := cl12) hc (Same.errAt (Same.trans (Same.trans (Same.trans (Same.trans (Same.trans (Same.trans (Same.trans (Same.trans (Same.trans (Same.trans (Same.trans s0 s1) s2) s3) s4) s5) s6) s7) s8) s9) s10) s11) he) h11 (by decide +kernel) fun p12 H12 s12 n12 h12 => ?_
    have sA := (Same.trans (Same.trans (Same.trans (Same.trans (Same.trans (Same.trans (Same.trans (Same.trans (Same.trans (Same.trans (Same.trans (Same.trans s0 s1) s2) s3) s4) s5) s6) s7) s8) s9) s10) s11) s12)
    replace h12 : H12 p12 = some (.lst (errs.map (isc c))) := h12
    generalize H12 = G at *
    generalize p12 = q at *
    refine ⟨_, rfl, q, _, rfl, .inl (.inl h12), fun D nD => lc_it walk_enum (fun i H' => H' D = some (.lst (if j < i then [.int (j : Nat)] else [])) ∧ Same G H') ⟨by rw [upd_same, if_neg (Nat.not_lt_zero j)], Same.new nD⟩ (fun i H' _ h => .inl (.inl (h.2 _ _ h12))) ?_ ?_⟩
    · rintro i x H1 H2 hi ⟨hD, sG⟩ ⟨t, u, v, rfl, ht, rfl, hu, hv⟩
      obtain rfl := Option.some.inj hu
      have hi2 : i < errs.length := by
        rw [List.length_map] at hi
        exact hi
      have hv2 : isc c errs[i] = v := by
        replace hv : (errs.map (isc c))[i]? = some v := hv
        rw [List.getElem?_map, List.getElem?_eq_getElem hi2] at hv
        exact Option.some.inj hv
      have nDt : D ≠ t := ne_of_none hD ht
      have s2 := Same.trans sG (Same.new (o := .tup [.int (i : Nat), v]) ht)
      have hD2 := Same.new (o := .tup [.int (i : Nat), v]) ht _ _ hD
      have ht2 : upd H1 t (.tup [.int (i : Nat), v]) t = some (.tup [.int (i : Nat), v]) := upd_same
      generalize upd H1 t (.tup [.int (i : Nat), v]) = H3 at *
      subst hv2
      have key : decide (c = errs[i]) = decide (i = j) := by
        have nd : errs.Nodup := by decide +kernel
        by_cases e : i = j
        · subst e
          rw [List.getElem?_eq_getElem hi2] at hj
          rw [decide_eq_true (Option.some.inj hj).symm, decide_eq_true rfl]
        · rw [decide_eq_false e, decide_eq_false]
          intro h
          refine e ?_
          have hj2 := (List.getElem?_eq_some_iff.mp hj).1
          have hj3 := (List.getElem?_eq_some_iff.mp hj).2
          exact (List.getElem_inj nd).mp (h.symm.trans hj3.symm)
      refine ⟨t, _, rfl, .inl (.inl ht2), rfl, _, _, rfl, _, _, rfl, rfl, rfl, _, rfl, _, rfl, ?_⟩
      rw [key]
      refine ite2 (fun e => ?_) (fun e => ?_)
      · have e := of_decide_eq_true e
        subst e
        refine ⟨_, rfl, _, hD2, ?_, ?_, ?_⟩
        · rw [if_neg (Nat.lt_irrefl i)]
          exact small1000 (Nat.zero_le _)
        · rw [upd_same, if_neg (Nat.lt_irrefl i), if_pos (Nat.lt_succ_self i)]
          rfl
        · exact fun b o z => by
            rw [upd_ne (ne_of_none z nD)]
            exact s2 b o z
      · have e : ¬ i = j := fun z => e (decide_eq_true z)
        refine ⟨?_, s2⟩
        rw [hD2]
        by_cases l : j < i
        · rw [if_pos l, if_pos (Nat.lt_succ_of_lt l)]
        · rw [if_neg l, if_neg (by omega)]
    · rintro H1 ⟨hD, sG⟩
      rw [List.length_map, if_pos (List.getElem?_eq_some_iff.mp hj).1] at hD
      exact k D H1 (Same.trans sA sG) (Same.free sA nD) hD
end
end K24

set_option maxHeartbeats 4000000
namespace Sa
open PySem PySem.Spec PyProof.Rows L2 He NdefX
theorem Ers.snoc {H : Hp} {as Cs : List Addr} {a C : Addr} (h : Ers H as Cs) (e : ErrAt H a C) : Ers H (as ++ [a]) (Cs ++ [C]) := h.append (.cons e .nil)
theorem take_snoc {α : Type} {l : List α} {i : Nat} {x : α} (h : l[i]? = some x) : l.take (i + 1) = l.take i ++ [x] := by
  rw [List.take_succ, h]
  rfl
/-- at each of fs a list of one int -/
inductive Fnds (H : Hp) : List Addr → List Nat → Prop
  | nil : Fnds H [] []
  | cons {a : Addr} {j : Nat} {as : List Addr} {js : List Nat} : H a = some (.lst [.int (j : Nat)]) → Fnds H as js → Fnds H (a :: as) (j :: js)
theorem Fnds.same {H H' : Hp} (s : Same H H') : ∀ {as : List Addr} {js : List Nat}, Fnds H as js → Fnds H' as js
  | _, _, .nil => .nil
  | _, _, .cons h r => .cons (s _ _ h) (Fnds.same s r)
theorem Fnds.snoc {H : Hp} : ∀ {as : List Addr} {js : List Nat} {a : Addr} {j : Nat}, Fnds H as js → H a = some (.lst [.int (j : Nat)]) → Fnds H (as ++ [a]) (js ++ [j])
  | _, _, _, _, .nil, r => .cons r .nil
  | _, _, _, _, .cons h q, r => .cons h (Fnds.snoc q r)
theorem Fnds.length {H : Hp} : ∀ {as : List Addr} {js : List Nat}, Fnds H as js → as.length = js.length
  | _, _, .nil => by simp
  | _, _, .cons _ r => by simp [Fnds.length r]
theorem Fnds.get {H : Hp} : ∀ {as : List Addr} {js : List Nat}, Fnds H as js → ∀ (i : Nat) (a : Addr), as[i]? = some a → ∃ j, js[i]? = some j ∧ H a = some (.lst [.int (j : Nat)])
  | _, _, .nil, i, a, h => by simp at h
  | _, _, .cons (a := b) (j := j) h r, 0, a, e => by
    have z : b = a := Option.some.inj e
    exact ⟨j, rfl, by rw [← z]; exact h⟩
  | _, _, .cons h r, i + 1, a, e => by
    rw [List.getElem?_cons_succ] at e ⊢
    exact Fnds.get r i a e
theorem same_del {H : Hp} {D : Addr} {o : HO} (n : H D = none) : Same H (del (upd H D o) D) := fun b u e => by
  rw [del_ne (ne_of_none e n), upd_ne (ne_of_none e n)]
  exact e
theorem map_get {α β : Type} {f : α → β} {l : List α} {i : Nat} {y : β} (h : (l.map f)[i]? = some y) : ∃ x, l[i]? = some x ∧ f x = y := by
  rw [List.getElem?_map] at h
  cases q : l[i]? with
  | none =>
    rw [q] at h
    cases h
  | some x =>
    rw [q] at h
    exact ⟨x, rfl, Option.some.inj h⟩
/-- all but the source of draws -/
def dd (d aw : Addr) (H : Hp) : Hp := del (del H d) aw
theorem dd_sub {d aw : Addr} {H : Hp} : Same (dd d aw H) H := Same.trans del_sub del_sub
theorem dd_ne {d aw b : Addr} {H : Hp} (h1 : b ≠ d) (h2 : b ≠ aw) : dd d aw H b = H b := by
  unfold dd
  rw [del_ne h2, del_ne h1]
theorem dd_keep {d aw : Addr} {H H' : Hp} (k : Keep d aw H H') : Same (dd d aw H) (dd d aw H') := fun b o e => by
  by_cases h2 : b = aw
  · unfold dd at e
    rw [h2, del_same] at e
    cases e
  · by_cases h1 : b = d
    · unfold dd at e
      rw [del_ne h2, h1, del_same] at e
      cases e
    · rw [dd_ne h1 h2] at e ⊢
      exact k b o e h1 h2
end Sa
namespace K24
open PySem PySem.Spec PyProof.Rows L2 He Sa NdefX
def all : List Str := plain ++ told
def pos (c : Str) : Nat := errs.findIdx fun x => decide (x = c)
def idx : List Nat := all.map pos
theorem pos_ok : ∀ c ∈ all, errs[pos c]? = some c := by decide +kernel
theorem idx_nd : idx.Nodup := by decide +kernel
theorem idx_ints : (idx.map fun j => ((j : Nat) : Int)).Nodup := by decide +kernel
theorem all_errs : ∀ c ∈ all, c ∈ errs := by decide +kernel
theorem all_len : all.length = 61 := by decide +kernel
section
variable {P : Program} {w : World} {K : PySem.W.Frag} {mg : Str → Option Value} {base : Heap}
abbrev Nlaw : List Str := ["_law_script", "_law_draw", "_law_some", "_law_one", "_law_other", "_law_told", "_law_errors_here", "_law_entry", "_law_classes_here", "_law_error", "_law_found", "_law_mine", "_law_due"]
theorem sclaw : FnScope Nlaw ["_law_script"] (defScope slaw) := ⟨rfl, rfl, rfl, by decide +kernel, rfl, by decide +kernel, by decide +kernel⟩
def spLaw (K : PySem.W.Frag) : Sp := fun vs H Q _ => ∃ (a : Addr) (ns : List Int), vs = [.ref a] ∧ SqL K H a (ns.map V.int) ∧ ns.length ≤ 63 ∧ ∀ H', Q (.bl true) H'
/-- the list of the ten things -/
structure Some_ (K : PySem.W.Frag) (d aw : Addr) (H1 H2 : Hp) (q : Addr) (xs : List V) : Prop where
  same : Same H1 H2
  at_ : H2 q = some (.lst xs)
  nd : q ≠ d
  naw : q ≠ aw
  len : xs.length = 10
  dat : ∀ (i : Nat) (x : V), xs[i]? = some x → ∃ dt ∈ dataL, Dq K (dd d aw H2) x dt
theorem s_some {d aw ac : Addr} {n : Int} {D : Ends} {σ : L2.St} {H1 : Hp} (D1 : Draw H1 d aw ac n) (k : ∀ q xs H2, Some_ K d aw H1 H2 q xs → D.nx (σ.set 2 (some (.ref q))) H2) :
    tAsg (tLst (tCons (tC V.non) (tCons (tC (V.int 0)) (tCons (tUn (rU fun i => V.int (-i)) (tC (V.int 7))) (tCons (tC (V.str "x")) (tCons (tC (V.str "")) (tCons (tTup (tCons (tC (V.int 1)) (tCons (tC (V.int 2)) tNil))) (tCons (tLst (tCons (tC (V.int 3)) tNil))
      (tCons (tDisp [(tC (V.str "a"), tC (V.int 4))]) (tCons (tC (V.bl true)) (tCons (tOp (rI CPow fun i j => V.int (i ^ j.toNat)) (tC (V.int 10)) (tC (V.int 20))) tNil))))))))))) (gName 2) D σ H1 := by
  refine ⟨_, rfl, by show 2 ≤ sizeLine; decide, fun t ht => ⟨by show 1 ≤ sizeLine; decide, fun l hl => fun e he => ⟨upd_same, [(Sum.inr "a", V.int 4)], rfl, by decide, _, _, rfl, rfl, ⟨by decide, by decide, by decide⟩, by show 10 ≤ sizeLine; decide, fun q hq => ?_⟩⟩⟩
  refine k q [V.non, .int 0, .int (-7), .str "x", .str "", .ref t, .ref l, .ref e, .bl true, .int (10 ^ 20)] (upd (upd (upd (upd (upd H1 t (.tup [V.int 1, V.int 2])) l (.lst [V.int 3])) e (.dK [])) e (.dK [(Sum.inr "a", V.int 4)])) q (.lst [V.non, .int 0, .int (-7), .str "x", .str "", .ref t, .ref l, .ref e, .bl true, .int (10 ^ 20)])) ?_
  obtain ⟨xs, hxs⟩ : ∃ xs : List V, xs = [V.non, .int 0, .int (-7), .str "x", .str "", .ref t, .ref l, .ref e, .bl true, .int (10 ^ 20)] := ⟨_, rfl⟩
  rw [← hxs]
  have s2 : Same H1 (upd (upd (upd (upd (upd H1 t (.tup [V.int 1, V.int 2])) l (.lst [V.int 3])) e (.dK [])) e (.dK [(Sum.inr "a", V.int 4)])) q (.lst xs)) :=
    Same.trans (Same.trans (Same.trans (Same.new ht) (Same.new hl)) (fun b o z => by
      rw [upd_ne (ne_of_none z he), upd_ne (ne_of_none z he)]
      exact z)) (Same.new hq)
  have ntl : t ≠ l := ne_of_none upd_same hl
  have nle : l ≠ e := ne_of_none upd_same he
  have nte : t ≠ e := ne_of_none (by rw [upd_ne ntl]; exact upd_same) he
  have neq : e ≠ q := ne_of_none upd_same hq
  have nlq : l ≠ q := ne_of_none (by rw [upd_ne nle, upd_ne nle]; exact upd_same) hq
  have ntq : t ≠ q := ne_of_none (by rw [upd_ne nte, upd_ne nte, upd_ne ntl]; exact upd_same) hq
  have ht2 : (upd (upd (upd (upd (upd H1 t (.tup [V.int 1, V.int 2])) l (.lst [V.int 3])) e (.dK [])) e (.dK [(Sum.inr "a", V.int 4)])) q (.lst xs)) t = some (.tup [V.int 1, V.int 2]) := by
    rw [upd_ne ntq, upd_ne nte, upd_ne nte, upd_ne ntl, upd_same]
  have hl2 : (upd (upd (upd (upd (upd H1 t (.tup [V.int 1, V.int 2])) l (.lst [V.int 3])) e (.dK [])) e (.dK [(Sum.inr "a", V.int 4)])) q (.lst xs)) l = some (.lst [V.int 3]) := by
    rw [upd_ne nlq, upd_ne nle, upd_ne nle, upd_same]
  have he2 : (upd (upd (upd (upd (upd H1 t (.tup [V.int 1, V.int 2])) l (.lst [V.int 3])) e (.dK [])) e (.dK [(Sum.inr "a", V.int 4)])) q (.lst xs)) e = some (.dK [(Sum.inr "a", V.int 4)]) := by
    rw [upd_ne neq, upd_same]
  have hq2 : (upd (upd (upd (upd (upd H1 t (.tup [V.int 1, V.int 2])) l (.lst [V.int 3])) e (.dK [])) e (.dK [(Sum.inr "a", V.int 4)])) q (.lst xs)) q = some (.lst xs) := upd_same
  have live : ∀ z, z = d ∨ z = aw → z ≠ t ∧ z ≠ l ∧ z ≠ e ∧ z ≠ q := fun z hz => by
    obtain ⟨o, ho⟩ : ∃ o, H1 z = some o := by
      obtain ⟨_, wd, cl, rs, tn, g1, g2, _⟩ := D1
      rcases hz with hz | hz
      · rw [hz]
        exact ⟨_, g1⟩
      · rw [hz]
        exact ⟨_, g2⟩
    have a1 : z ≠ t := ne_of_none ho ht
    have b1 := Same.new (o := .tup [V.int 1, V.int 2]) ht _ _ ho
    have a2 : z ≠ l := ne_of_none b1 hl
    have b2 := Same.new (o := .lst [V.int 3]) hl _ _ b1
    have a3 : z ≠ e := ne_of_none b2 he
    exact ⟨a1, a2, a3, ne_of_none (by rw [upd_ne a3, upd_ne a3]; exact b2) hq⟩
  generalize (upd (upd (upd (upd (upd H1 t (.tup [V.int 1, V.int 2])) l (.lst [V.int 3])) e (.dK [])) e (.dK [(Sum.inr "a", V.int 4)])) q (.lst xs)) = H2 at *
  clear ht hl he hq
  obtain ⟨td, ld, ed, qd⟩ := live d (.inl rfl)
  obtain ⟨ta, la, ea, qa⟩ := live aw (.inr rfl)
  have Dt : Dq K (dd d aw H2) (.ref t) (.tuple [.int 1, .int 2]) := .tup (.inl (.inl (by rw [dd_ne td.symm ta.symm]; exact ht2))) (.cons (.int _) (.cons (.int _) .nil))
  have Dl : Dq K (dd d aw H2) (.ref l) (.list [.int 3]) := .lst (.inl (.inl (by rw [dd_ne ld.symm la.symm]; exact hl2))) (.cons (.int _) .nil)
  have De : Dq K (dd d aw H2) (.ref e) (.dict [(.str "a", .int 4)]) := .dct (.inl (by rw [dd_ne ed.symm ea.symm]; exact he2)) (.cons (k := Sum.inr "a") (.int _) .nil)
  refine ⟨s2, hq2, qd.symm, qa.symm, by rw [hxs]; rfl, fun i x hx => ?_⟩
  rw [hxs] at hx
  have mem : ∀ j dt, dataL[j]? = some dt → dt ∈ dataL := fun j dt h => List.mem_of_getElem? h
  rcases i with _ | _ | _ | _ | _ | _ | _ | _ | _ | _ | i
  · exact ⟨_, mem 0 _ rfl, by cases hx; exact .non⟩
  · exact ⟨_, mem 1 _ rfl, by cases hx; exact .int _⟩
  · exact ⟨_, mem 2 _ rfl, by cases hx; exact .int _⟩
  · exact ⟨_, mem 3 _ rfl, by cases hx; exact .str _⟩
  · exact ⟨_, mem 4 _ rfl, by cases hx; exact .str _⟩
  · exact ⟨_, mem 5 _ rfl, by cases hx; exact Dt⟩
  · exact ⟨_, mem 6 _ rfl, by cases hx; exact Dl⟩
  · exact ⟨_, mem 7 _ rfl, by cases hx; exact De⟩
  · exact ⟨_, mem 8 _ rfl, by cases hx; exact .bl _⟩
  · exact ⟨_, mem 9 _ rfl, by cases hx; exact .int _⟩
  · simp at hx
theorem law_G {fd : FuncData} (T : Tx sx K mg) (Y : chk K = true) (p : Pok P) (F : FunD K "law" "law" (defArgs slaw) (defBody slaw) (defScope slaw) [] [] (ga K "law") fd) : FnG P w K mg base (L2.CX P w) 5 (ga K "law") fd ["_law_script"] (spLaw K) := by
  refine funG_nox F sclaw (fun vs H Q E h => ?_) (fun cdv A outer s H vs Q E hgd hr h => ?_)
  · obtain ⟨a, ns, rfl, _⟩ := h
    rfl
  · obtain ⟨a, ns, rfl, hS, hlen, k⟩ := h
    have hu := hu_of hr
    have hun := hr.units
    have hge : (A.deeper (envOfC "law" (defScope slaw) s.heap.objs.size (ga K "law") cdv)).guards = some [] := guards_deeper hgd _
    refine ⟨_, (pss_cons (ps_set (i := 1) sclaw.nd rfl (Or.inl rfl) (pe_cal (c_begun T) hr (pa_cons (pv 0) pa_nil)))
    (pss_cons (ps_set (i := 2) sclaw.nd rfl (Or.inl rfl) (pe_lst (pa_cons pe_non (pa_cons pe_int (pa_cons (pe_un un_neg pe_int) (pa_cons pe_str (pa_cons pe_str (pa_cons (pe_tup (pa_cons pe_int (pa_cons pe_int pa_nil))) (pa_cons (pe_lst (pa_cons pe_int pa_nil)) (pa_cons (pe_disp (pps_cons pe_str pe_int pps_nil) (by rfl) (by rfl) (fun z => by cases z) (by decide)) (pa_cons pe_bl (pa_cons (pe_op op_pow pe_int pe_int) pa_nil))))))))))))
    (pss_cons (ps_par (i := 3) (j := 4) (by rfl) sclaw.nd rfl rfl (by decide) rfl rfl (pa_cons (pe_cal (c_pick T) hr (pa_cons (pv 1) (pa_cons (pv 2) pa_nil))) (pa_cons (pe_cal (c_pick T) hr (pa_cons (pv 1) (pa_cons (pv 2) pa_nil))) pa_nil)) (by rfl))
    (pss_cons (ps_set (i := 5) sclaw.nd rfl (Or.inl rfl) (pe_cal (c_told T p) hr (pa_cons (pv 3) (pa_cons (pv 4) pa_nil))))
    (pss_cons (ps_set (i := 6) sclaw.nd rfl (Or.inl rfl) (pe_op op_cat (pe_cal0 (c_plain T Y) hr) (pe_lc (own := [("_law_entry", 7)]) (g := gName 7) (tt := tYes) (te := tOp (rIxT K) (tVar 7) (tC (.int 0))) rfl sclaw.nd (pi_list (pv 5)) (blkOk_by (N := Nlaw) (sc := defScope slaw) (by decide +kernel)) (fun _ _ _ _ _ => (pg_name (i := 7) sclaw.nd rfl (Or.inl rfl))) (fun _ _ _ _ _ => pts_nil) (fun _ _ _ _ _ => (pe_ix ix_tup (pv 7) pe_int (fun _ _ => rfl))))))
    (pss_cons (ps_setLc (i := 8) (own := [("_law_error", 9)]) (g := gName 9) (tt := tYes) rfl sclaw.nd rfl rfl (sw_true rfl rfl rfl (by decide +kernel)) (pi_list (pv 6)) (blkOk_by (N := Nlaw) (sc := defScope slaw) (by decide +kernel)) (fun _ _ _ _ _ => (pg_name (i := 9) sclaw.nd rfl (Or.inl rfl))) (fun _ _ _ _ _ => pts_nil) (fun _ _ _ _ _ => (pe_cal (c_classes T Y) hr (pa_cons (pv 9) pa_nil))))
    (pss_cons (ps_if (PW.pt (pw_or (pt_cmpR (op_neD hr.units) (pe_lc (own := [("_law_found", 10)]) (g := gName 10) (tt := tTest (tOp rNe (tCB (fun xs H Q => ∃ p ys, xs = [V.ref p] ∧ (SqL K H p ys ∨ SqT K H p ys) ∧ Q (.int ys.length) H) (tCons (tVar 10) tNil)) (tC (.int 1)))) rfl sclaw.nd (pi_list (pv 8)) (blkOk_by (N := Nlaw) (sc := defScope slaw) (by decide +kernel)) (fun _ _ _ _ _ => (pg_name (i := 10) sclaw.nd rfl (Or.inl rfl))) (fun _ _ _ _ _ => (pts_one (pt_cmpR op_ne (pe_callB call_len_seq (by rfl) (T.free "len") (by decide +kernel) (pa_cons (pv 10) pa_nil)) pe_int (nomark _)))) (fun _ _ _ _ _ => pe_int)) (pe_lst pa_nil) (nomark _)) (pw_or1 (pt_cmpR op_ne (RZ.pe_lenSetI (by rfl) (T.free "len") (by rfl) (T.free "set") (pe_lc (own := [("_law_found", 10)]) (g := gName 10) (tt := tYes) (te := tOp (rIxL K) (tVar 10) (tC (.int 0))) rfl sclaw.nd (pi_list (pv 8)) (blkOk_by (N := Nlaw) (sc := defScope slaw) (by decide +kernel)) (fun _ _ _ _ _ => (pg_name (i := 10) sclaw.nd rfl (Or.inl rfl))) (fun _ _ _ _ _ => pts_nil) (fun _ _ _ _ _ => (pe_ix ix_list (pv 10) pe_int (fun _ _ => rfl))))) (pe_callB call_len_seq (by rfl) (T.free "len") (by decide +kernel) (pa_cons (pv 6) pa_nil)) (nomark _))))) (pss_one (ps_ret pe_bl)) pss_nil)
    (pss_cons (ps_for PassesOwn.never rfl (pi_list (pv 5)) (pg_tup rfl (pgs_cons (pg_name (i := 9) sclaw.nd rfl (Or.inl rfl)) (pgs_cons (pg_name (i := 11) sclaw.nd rfl (Or.inl rfl)) (pgs_cons (pg_name (i := 12) sclaw.nd rfl (Or.inl rfl)) pgs_nil)))) (pss_one (ps_if (pt_cmpR op_ne (pe_callB (call_reprD T.sys hge hun) (by rfl) (T.free "repr") (by decide +kernel) (pa_cons (pv 11) pa_nil)) (pe_callB (call_reprD T.sys hge hun) (by rfl) (T.free "repr") (by decide +kernel) (pa_cons (pv 12) pa_nil)) (nomark _)) (pss_one (ps_ret pe_bl)) pss_nil)))
    (pss_cons (ps_for PassesOwn.never rfl (pi_list (pv 6)) (pg_name (i := 9) sclaw.nd rfl (Or.inl rfl)) (pss_one (ps_if (PW.pt (pw_or (pt_not (pt_val (pe_callB call_isX (by rfl) (T.free "isinstance") (by decide +kernel) (pa_cons (pv 9) (pa_cons (pe_glob (v := .ref (ga K "PageError")) rfl (T.glo "PageError") rfl) pa_nil))))) (pw_or1 (pt_not (pt_val (pe_callB call_isX (by rfl) (T.free "isinstance") (by decide +kernel) (pa_cons (pv 9) (pa_cons (pe_bltn (v := .ty "ValueError") (by rfl) (T.free "ValueError") (by decide +kernel) rfl) pa_nil)))))))) (pss_one (ps_ret pe_bl)) pss_nil)))
    (pss_one (ps_ret pe_bl))))))))))), ?_⟩
    refine ⟨_, rfl, a, ns, rfl, hS, hlen, fun H1 d aw ac s1 nd naw nac D1 => ?_⟩
    refine s_some (K := K) (D1 : Draw H1 d aw ac 0) fun q xs H2 S => ?_
    obtain ⟨s2, hq2, nqd, nqa, hxl, dat⟩ := S
    have SQ2 : SqL K H2 q xs := .inl (.inl hq2)
    refine ⟨_, rfl, _, rfl, d, aw, ac, q, 0, xs, rfl, D1.same s2, by decide, SQ2, nqa, nqd, by rw [hxl]; decide, by rw [hxl]; decide, fun i1 v1 H3 g1 K3 D3 => ?_⟩
    have SQ3 : SqL K H3 q xs := K3.seqL SQ2 nqd nqa
    refine ⟨_, rfl, _, rfl, d, aw, ac, q, 0 + 1, xs, rfl, D3, by decide, SQ3, nqa, nqd, by rw [hxl]; decide, by rw [hxl]; decide, fun i2 v2 H4 g2 K4 D4 => ?_⟩
    refine ⟨v1, v2, rfl, ?_⟩
    obtain ⟨d1, m1, q1⟩ := dat i1 v1 g1
    obtain ⟨d2, m2, q2⟩ := dat i2 v2 g2
    have sK : Same (dd d aw H2) H4 := Same.trans (dd_keep (Keep.trans K3 K4)) dd_sub
    refine ⟨_, rfl, _, rfl, v1, v2, d1, d2, rfl, Dq.same sK _ _ q1, Dq.same sK _ _ q2, m1, m2, fun tp ts H5 s5 n5 h5 rows => ?_⟩
    refine ⟨rfl, fun pp as H6 s6 n6 h6 ers => ?_⟩
    replace rows : Rows K H5 ts (told.map (ga K)) := rows
    replace ers : Ers H6 as (plain.map (ga K)) := ers
    have h5' := s6 _ _ h5
    have rows6 := Rows.same s6 rows
    refine ⟨_, rfl, tp, rfl, ⟨_, .inl (.inl h5')⟩, fun D nD => lc_list (K := K) (a := tp) (xs := ts.map V.ref) (fun i H' => ∃ es : List Addr, H' D = some (.lst (es.map V.ref)) ∧ Ers (del H' D) es ((told.map (ga K)).take i) ∧ Same H6 (del H' D)) ⟨[], upd_same, .nil, same_del nD⟩ (fun i H' _ ⟨_, _, _, z⟩ => .inl (.inl (del_sub _ _ (z _ _ h5')))) ?_ ?_⟩
    · rintro i x H7 hi ⟨es, g1, g2, g3⟩
      obtain ⟨t, ht, rfl⟩ := map_get hi
      obtain ⟨C, hC, e, l, m, dt, r1, r2, _⟩ := (Rows.same g3 rows6).get i t ht
      refine ⟨rfl, ?_⟩
      delta tYes
      refine ifT ?_
      refine ⟨_, rfl, t, _, 0, .ref e, rfl, rfl, Same.seqT del_sub r1, rfl, _, g1, ?_, es ++ [e], by rw [upd_same, List.map_append]; rfl, ?_, ?_⟩
      · rw [List.length_map, g2.length, List.length_take]
        exact small1000 (Nat.le_trans (Nat.min_le_right _ _) (Nat.le_of_ble_eq_true rfl))
      · rw [del_upd, take_snoc hC]
        exact g2.snoc r2
      · rw [del_upd]
        exact g3
    · rintro H7 ⟨es, g1, g2, g3⟩
      rw [List.length_map, rows.length, List.take_length] at g2
      have s7 : Same H6 H7 := Same.trans g3 del_sub
      have ers7 : Ers H7 (as ++ es) (all.map (ga K)) := by
        have e : all.map (ga K) = plain.map (ga K) ++ told.map (ga K) := List.map_append
        rw [e]
        exact (ers.same s7).append (g2.same del_sub)
      have hlen7 : (as ++ es).length = 61 := by
        rw [ers7.length, List.length_map, all_len]
      refine ⟨pp, D, as.map V.ref, es.map V.ref, rfl, rfl, s7 _ _ h6, g1, ?_, fun ep hep => ?_⟩
      · rw [← List.length_append, ← List.map_append, List.length_map, hlen7]
        decide
      rw [← List.map_append]
      have s8 := Same.new (o := .lst ((as ++ es).map V.ref)) hep
      have h8 : upd H7 ep (.lst ((as ++ es).map V.ref)) ep = some (.lst ((as ++ es).map V.ref)) := upd_same
      have ers8 := ers7.same s8
      have rows8 := Rows.same (Same.trans s7 s8) rows6
      have ht8 := Same.trans s7 s8 _ _ h5'
      generalize upd H7 ep (.lst ((as ++ es).map V.ref)) = H8 at *
      generalize as ++ es = er at *
      clear g1 g2 g3 s7 ers7 hep s8 ers h6 rows6 h5'
      refine ⟨_, rfl, ep, rfl, ⟨_, .inl (.inl h8)⟩, fun D2 nD2 => lc_list (K := K) (a := ep) (xs := er.map V.ref) (fun i H' => ∃ fs : List Addr, H' D2 = some (.lst (fs.map V.ref)) ∧ Fnds (del H' D2) fs (idx.take i) ∧ Same H8 (del H' D2)) ⟨[], upd_same, .nil, same_del nD2⟩ (fun i H' _ ⟨_, _, _, z⟩ => .inl (.inl (del_sub _ _ (z _ _ h8)))) ?_ ?_⟩
      · rintro i x H9 hi ⟨fs, g1, g2, g3⟩
        obtain ⟨e, he, rfl⟩ := map_get hi
        obtain ⟨C, hC, r2⟩ := (ers8.same g3).get i e he
        obtain ⟨c, hc, rfl⟩ := map_get hC
        have hj := pos_ok c (List.mem_of_getElem? hc)
        have hix : idx[i]? = some (pos c) := by
          unfold idx
          rw [List.getElem?_map, hc]
          rfl
        refine ⟨rfl, ?_⟩
        delta tYes
        refine ifT ?_
        refine ⟨_, rfl, e, pos c, c, rfl, hj, Same.errAt del_sub r2, fun f H10 s10 nf hf => ?_⟩
        have nDf : f ≠ D2 := (ne_of_none g1 nf).symm
        refine ⟨_, s10 _ _ g1, ?_, fs ++ [f], by rw [upd_same, List.map_append]; rfl, ?_, ?_⟩
        · rw [List.length_map, g2.length, List.length_take]
          exact small1000 (Nat.le_trans (Nat.min_le_right _ _) (Nat.le_of_ble_eq_true (by decide +kernel)))
        · rw [del_upd, take_snoc hix]
          exact (g2.same (del_mono s10)).snoc (by rw [del_ne nDf]; exact hf)
        · rw [del_upd]
          exact Same.trans g3 (del_mono s10)
      · rintro H9 ⟨fs, g1, g2, g3⟩
        rw [List.length_map, hlen7, List.take_of_length_le (by decide +kernel)] at g2
        have fnd := g2.same del_sub
        have s9 : Same H8 H9 := Same.trans g3 del_sub
        replace ers8 := ers8.same s9
        have rows9 := Rows.same s9 rows8
        have ht9 := s9 _ _ ht8
        have h9 := s9 _ _ h8
        have fl9 : fs.length = 61 := by
          rw [fnd.length]
          decide +kernel
        clear g2 g3 rows8 ht8 h8 s9
        refine ⟨_, rfl, D2, rfl, ⟨_, .inl (.inl g1)⟩, fun D3 nD3 => lc_list (K := K) (a := D2) (xs := fs.map V.ref) (fun i H' => H' D3 = some (.lst []) ∧ Same H9 H') ⟨upd_same, Same.new nD3⟩ (fun i H' _ z => .inl (.inl (z.2 _ _ g1))) ?_ ?_⟩
        · rintro i x Ha hi ⟨b1, b2⟩
          obtain ⟨f, hf, rfl⟩ := map_get hi
          obtain ⟨j, hj, e⟩ := (fnd.same b2).get i f hf
          refine ⟨rfl, _, rfl, f, _, rfl, .inl (.inl (.inl e)), rfl, _, rfl, ?_⟩
          exact iteF ⟨b1, b2⟩
        · rintro Ha ⟨b1, b2⟩
          refine ⟨Nat.zero_le _, fun o1 ho1 => ?_⟩
          have no1 : D3 ≠ o1 := ne_of_none b1 ho1
          have b3 := Same.trans b2 (Same.new (o := .lst []) ho1)
          refine ⟨.list [], .list [], .lst (.inl (.inl (by rw [upd_ne no1]; exact b1))) .nil, .lst (.inl (.inl upd_same)) .nil, by decide +kernel, by decide +kernel, _, rfl, ?_⟩
          generalize upd Ha o1 (.lst []) = Hb at *
          refine iteF ?_
          have g1b := b3 _ _ g1
          refine ⟨_, rfl, D2, rfl, ⟨_, .inl (.inl g1b)⟩, fun D4 nD4 => lc_list (K := K) (a := D2) (xs := fs.map V.ref) (fun i H' => H' D4 = some (.lst ((idx.take i).map fun j => V.int (j : Nat))) ∧ Same Hb H') ⟨upd_same, Same.new nD4⟩ (fun i H' _ z => .inl (.inl (z.2 _ _ g1b))) ?_ ?_⟩
          · rintro i x Hc hi ⟨c1, c2⟩
            obtain ⟨f, hf, rfl⟩ := map_get hi
            obtain ⟨j, hj, e⟩ := (fnd.same (Same.trans b3 c2)).get i f hf
            refine ⟨rfl, ?_⟩
            delta tYes
            refine ifT ?_
            refine ⟨_, rfl, f, _, 0, .int (j : Nat), rfl, rfl, .inl (.inl e), rfl, _, c1, ?_, ?_, ?_⟩
            · rw [List.length_map, List.length_take]
              exact small1000 (Nat.le_trans (Nat.min_le_right _ _) (Nat.le_of_ble_eq_true (by decide +kernel)))
            · rw [upd_same, take_snoc hj, List.map_append]
              rfl
            · exact fun b o z => by
                rw [upd_ne (ne_of_none z nD4)]
                exact c2 b o z
          · rintro Hc ⟨c1, c2⟩
            rw [List.length_map, fl9, List.take_of_length_le (by decide +kernel)] at c1
            have c3 := Same.trans b3 c2
            have h9c := c3 _ _ h9
            have ht9c := c3 _ _ ht9
            have rows9c := Rows.same c3 rows9
            have ers8c := ers8.same c3
            refine ⟨D4, idx.map fun j => ((j : Nat) : Int), rfl, .inl (.inl (by rw [c1, List.map_map]; rfl)), idx_ints, by decide +kernel, ?_⟩
            refine ⟨_, rfl, ep, er.map V.ref, rfl, .inl (.inl (.inl h9c)), rfl, _, rfl, ?_⟩
            have e61 : (!decide ((V.int (((idx.map fun j => ((j : Nat) : Int)).length : Nat) : Int)) = V.int (((er.map V.ref).length : Nat) : Int))) = false := by
              rw [List.length_map, List.length_map, hlen7]
              decide +kernel
            rw [e61]
            refine iteF ?_
            clear g1b c1 c2 c3 b1 b2 b3 fnd rows9 ers8 h9 ht9
            refine ⟨_, rfl, tp, rfl, ⟨_, .inl (.inl ht9c)⟩, for_list (K := K) (a := tp) (xs := ts.map V.ref) (fun _ σ H' => H' = Hc ∧ ∃ x7 x9 x10 x11 x12 : Option V, σ = [some (.ref a), some (.ref d), some (.ref q), some v1, some v2, some (.ref tp), some (.ref ep), x7, some (.ref D2), x9, x10, x11, x12])
              ⟨rfl, _, _, _, _, _, rfl⟩ (fun i σ H' _ z => by rw [z.1]; exact .inl (.inl ht9c)) ?_ ?_⟩
            · rintro i x σ H' hi ⟨rfl, x7, x9, x10, x11, x12, rfl⟩
              obtain ⟨t, ht, rfl⟩ := map_get hi
              obtain ⟨C, hC, e, l, m, dt, r1, r2, r3, r4, r5⟩ := rows9c.get i t ht
              obtain ⟨o1, o2⟩ := ba r5
              obtain ⟨o2, o3⟩ := ba o2
              have o2 := of_decide_eq_true o2
              have o3 := of_decide_eq_true o3
              refine ⟨t, _, rfl, r1, rfl, _, _, rfl, _, _, rfl, _, _, rfl, rfl, ?_⟩
              refine ⟨_, rfl, l, dt, rfl, r3, o1, o2, o3, _, rfl, m, dt, rfl, r4, o1, o2, o3, rfl, _, rfl, ?_⟩
              rw [decide_eq_true rfl]
              exact iteF ⟨rfl, _, _, _, _, _, rfl⟩
            · rintro σ H' ⟨rfl, x7, x9, x10, x11, x12, rfl⟩
              refine ⟨_, rfl, ep, rfl, ⟨_, .inl (.inl h9c)⟩, for_list (K := K) (a := ep) (xs := er.map V.ref) (fun _ σ H2' => H2' = H' ∧ ∃ x7 x9 x10 x11 x12 : Option V, σ = [some (.ref a), some (.ref d), some (.ref q), some v1, some v2, some (.ref tp), some (.ref ep), x7, some (.ref D2), x9, x10, x11, x12])
                ⟨rfl, _, _, _, _, _, rfl⟩ (fun i σ H' _ z => by rw [z.1]; exact .inl (.inl h9c)) ?_ ?_⟩
              · rintro i x σ H2' hi ⟨rfl, x7, x9, x10, x11, x12, rfl⟩
                obtain ⟨e, he, rfl⟩ := map_get hi
                obtain ⟨C, hC, r2⟩ := ers8c.get i e he
                obtain ⟨c, hc, rfl⟩ := map_get hC
                have hce := all_errs c (List.mem_of_getElem? hc)
                have X1 := ((chk_all Y).1 c hce).2
                refine ⟨_, rfl, e, ga K c, _, .ref (ga K "PageError"), true, rfl, r2, X1, fun u hu => hu, one_page Y hce, _, rfl, ?_⟩
                refine iteF ?_
                refine ⟨_, rfl, e, ga K c, _, .type "ValueError", true, rfl, r2, X1, fun u hu => hu, one_ve Y hce, _, rfl, ?_⟩
                exact iteF ⟨rfl, _, _, _, _, _, rfl⟩
              · rintro σ H2' ⟨rfl, x7, x9, x10, x11, x12, rfl⟩
                exact k _
end
end K24

set_option maxHeartbeats 4000000
namespace K24
open PySem PySem.Spec PyProof.Rows L2 He Sa
theorem facts {P : Program} {w : World} {h : Heap} {mg : Str → Option Value} {f : Addr} (p : Pok P) (G : h.Ns mainGlobals mg) (hfa : mg ("law" : Str) = some (.ref f)) (Y : (hookP 4 sx sy).says w h) :
    ∃ (K : PySem.W.Frag) (fd : FuncData) (sp : Sp), K.In h ∧ (∀ (s : Shared) (u : Value), BindsTo s fd ⟨[u], []⟩ [(("_law_script" : Str), u)]) ∧
      (∀ (H : Hp) (a : Addr) (ns : List Int), ns.length ≤ 63 → Only H → SqL K H a (ns.map V.int) → sp [.ref a] H (fun v _ => v = .bl true) fun _ _ _ => False) ∧
      ∀ base : Heap, K.In base → base.Ns mainGlobals mg → FnG P w K mg base (L2.CX P w) 5 f fd ["_law_script"] sp := by
  obtain ⟨K, X, c1, c2⟩ := Y
  have T : Tx sx K mg := ⟨⟨h, X, G⟩, c1⟩
  have T2 : Tx sy K mg := ⟨⟨h, X, G⟩, c2⟩
  have e := hfa.symm.trans (T.glo "law")
  cases e
  obtain ⟨fd0, F0⟩ := T.def_ 7 (x := "law") (st := slaw) rfl
  have b := FunD.bindsA (ps := ["_law_script"]) F0 fun _ _ _ _ _ _ us hl => match us, hl with | [_], _ => rfl
  refine ⟨K, fd0, spLaw K, X, fun s v => b s [v] rfl, fun H a ns hl _ hS => ⟨a, ns, rfl, hS, hl, fun _ => rfl⟩, fun base _ _ => ?_⟩
  exact law_G (base := base) T T2.chk p F0
end K24
open PySem PySem.W PySem.Calls PyProof.Rows
theorem PySem.Challenge.cw_saidandasked_k24_errors_made_and_bases_holds : PySem.Challenge.rw_saidandasked_k24_errors_made_and_bases.Holds := by
  w_on; o_law
  refine HandSHeadRun.head_any (r := K24.R) (q := view K24.R.prog [K24.lawAt]) (H := Sa.hookP 4 K24.sx K24.sy) (ob := Sa.obP 4 K24.sx K24.sy) (M := 20000) (loose := K24.loose) (d := HandSHeadRun.topDef K24.R.prog 71) (kwd := []) (Sa.obP_eq 4 K24.sx K24.sy)
    (by kernel_rfl) (fun s => by kernel_rfl) K24.run (by kernel_rfl) (by kernel_rfl) (by kernel_rfl) (by rfl) (by first | assumption | decide +kernel) (by decide +kernel) ⟨rfl, rfl, rfl, rfl, rfl, by decide +kernel⟩ ?hw ?hc
  case hw => w_witness2
  case hc =>
    refine Sa.walk_ofG (l := PySem.Challenge.rw_saidandasked_k24_errors_made_and_bases) (n := 63) (k := 5) (x := "_law_script") (CX := L2.CX (PySem.Challenge.rw_saidandasked_k24_errors_made_and_bases).prog) rfl (by decide) (by kernel_rfl) ⟨rfl, by decide, by decide⟩ ?F (fun _ _ _ _ _ z => by
      obtain ⟨_, _, _, _, _, _, _, _, _, _, _, _, z⟩ := z
      exact z)
    intro w mg fa h Y G hmg0
    have hmg : mg ("law" : PySem.Str) = some (.ref fa) := by
      have e : (HandSHeadRun.topDef K24.R.prog 71).name = ("law" : PySem.Str) := by kernel_rfl
      rw [← e]
      exact hmg0
    exact K24.facts (P := (PySem.Challenge.rw_saidandasked_k24_errors_made_and_bases).prog) ⟨by kernel_rfl, by kernel_rfl⟩ G hmg Y
