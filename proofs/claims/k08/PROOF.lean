import PyProof.Rows.All
import Wide.All
import OpenK.AllK
import Wide.FinOn
import PyProof.EqAt
import PyProof.EqKinds
import PyProof.TupleCall
import KE.KExcSuper
import KE.KExcIs
import HandS.ForMost
import HandS.ForExc
import HandS.ExcInit
import HandS.ExcField
import HandS.ExcIs
import HandS.TryMany
import HandS.Walk
import HandS.Wide
import HandS.EndBits
import HandS.Flow
import HandS.Codes
import HandS.IsInst
import HandS.More
import HandS.Conv
import HandS.DictTup
import KE.KDictWalk
import HandS.Style
import HandS.Text
import HandS.Steps
import HandS.CallLocal
import HandS.TupLe
import HandS.TupAny
import HandS.Zip
import HandS.FStr
import HandS.Star
import HandS.DictComp
import PyProof.EqLayable
import HandS.Iter
import HandS.Strs
import PyProof.Rows.StrMul
import HandS.CallSlots
import HandS.Defaults
import HandS.Deep
import KE.KOpsOwn
import KE.KFmtOwn
import HandS.TupLen
import HandS.WordsDict
import HandS.MakeKwOnly
import HandS.ClsMeth
import PySem.Challenge.RW_heldsteps_k08_whole_ratio_texts
set_option Elab.async false
set_option linter.all false
set_option maxRecDepth 100000
set_option maxHeartbeats 4000000
namespace PySem
namespace HErr
open PySem.W PySem.Calls PyProof.Rows PySem.HandSPX
abbrev FP := Str × Pos × Pos × Pos × Pos
def stF (q : FP) : Stmt := .Assign [.Attribute (.Name "self" q.2.1) q.1 q.2.2.1] (.Name q.1 q.2.2.2.1) q.2.2.2.2
def stS (msg : Expr) (p1 p2 p3 p4 p5 : Pos) : Stmt := .Expr (.Call (.Attribute (.Call (.Name "super" p1) [] [] p2) "__init__" p3) [msg] [] p4) p5
section
variable {prog : Program} {w : World} {A : Around} {E : Value → Shared → Prop} {s : Shared} {K : Frag} {C : Addr}
/-- what is known of the class for its stores -/
structure ClsK (K : Frag) (C : Addr) (fs : List Str) : Prop where
  cls : ∃ nm q N bs bm sn sub ab col dd k0 k1 k2 k3 k5, K.lookup C = some (excClassObj nm q C N bs bm true sn sub ab col dd k0 k1 k2 k3 k5 "ValueError.__new__") ∧ refsVE bm = true
  sa : findIn K (.ref C) "__setattr__" = some (some (.builtin "object.__setattr__"))
  noN : ∀ f ∈ fs, findIn K (.ref C) f = some none
theorem ClsK.data {fs : List Str} (T : ClsK K C fs) : ∃ cd, clsIn K C = some cd ∧ refsVE cd.mro = true ∧ cd.hasDict = true := by
  obtain ⟨nm, q, N, bs, bm, sn, sub, ab, col, dd, k0, k1, k2, k3, k5, hC, hbm⟩ := T.cls
  exact ⟨{ name := nm, bases := bs, mro := .ref C :: bm, ns := N, qualname := q, hasDict := true, slotNames := sn, subclasses := sub, abstract := ab, collection := col, hasDel := false }, by unfold clsIn; rw [hC] <;> rfl, hbm, rfl⟩
theorem ld {M : Model} {env : Env} {m : Str → Option Value} {x : Str} {pos : Pos} {v : Value} {Q : Value → Shared → Prop} (hn : s.heap.Ns env.locals m) (hv : m x = some v) (h : Q v s)
    (hk : env.scope.kind = .function) (hl : env.kindOf x = some .local) (hd : (x == ("__debug__" : Str)) = false) :
    wpAny M A (eval (.Name x pos) env) Q E s := wpAny_Name (wpAny_loadName_local hk hl hn hv h) hd
theorem swaps_attr (env : Env) (q : FP) : swapsWith (.Name q.1 q.2.2.2.1) (some (.Attribute (.Name "self" q.2.1) q.1 q.2.2.1)) q.2.2.2.2.line env = pure false := rfl
/-- the stores behind the first -/
theorem stores_old {names : List Str} (T : ClsK K C names) {env : Env} (hk : env.scope.kind = .function) (hself : env.kindOf "self" = some .local) {m : Str → Option Value} {x dx t0 : Addr} (hmx : m "self" = some (.ref x)) :
    ∀ (fs : List FP) (us : List Value) (vs : List L2.V) (hv : L2.Vals vs us) (hfn : ∀ q ∈ fs, q.1 ∈ names ∧ env.kindOf q.1 = some .local ∧ (q.1 == ("__debug__" : Str)) = false) (hm : Paired (fun (q : FP) u => m q.1 = some u) fs us) (fV : List (Str × L2.V)) (mA : Str → Option Value) (s : Shared) (Q : Flow → Shared → Prop),
      K.In s.heap → s.heap.Ns env.locals m → env.locals ≠ dx → K.lookup dx = none →
      s.heap.get? x = some { cls := .ref C, dict := some dx, data := .fields #[.ref t0, .none, .none, .none, .bool false, .none] } → s.heap.Ns1 dx mA → (∀ f, L2.RelO (fV.lookup f) (mA f)) → fV.length + fs.length ≤ 900 →
      (∀ h' tk mB, (∀ b o, b ≠ dx → s.heap.get? b = some o → h'.get? b = some o) → h'.Ns1 dx mB → (∀ f, L2.RelO ((((fs.map (·.1)).zip vs).reverse ++ fV).lookup f) (mB f)) → Q .next { s with heap := h', toks := tk }) →
      wpAny (model prog w) A (execs (fs.map stF) env) Q E s
  | [], us, vs, hv, hfn, hm, fV, mA, s, Q, X, hn, hL, hKd, hx, hns, hr, hl, hq => by
    refine wpAny_execs_nil ?_
    have := hq s.heap s.toks mA (fun _ _ _ e => e) hns (by simpa using hr)
    exact this
  | q :: fs, us, vs, hv, hfn, hm, fV, mA, s, Q, X, hn, hL, hKd, hx, hns, hr, hl, hq => by
    cases hm with
    | cons hu hm' =>
      rename_i u us'
      cases hv with
      | cons ru hv' =>
        rename_i v vs'
        obtain ⟨hmem, hloc, hdb⟩ := hfn q (List.mem_cons_self ..)
        obtain ⟨cd, hcd, hmro, hhd⟩ := T.data
        have hw := L2.within_of hr
        obtain ⟨hp, g, d, tk, os⟩ := s
        obtain ⟨oD, _, _, hoD, _, _⟩ := hns.count hw
        show wpAny _ _ (execs (stF q :: fs.map stF) env) _ _ _
        refine wpAny_execs_cons (plainObj_wpAny_Assign_Attribute ?_ (swaps_attr env q))
        refine ld hn hu (ld hn hmx ?_ hk hself (by decide)) hk hloc hdb
        refine set_plain X (ox := { cls := .ref C, dict := some dx, data := .fields #[.ref t0, .none, .none, .none, .bool false, .none] }) (od := some oD) ⟨hx, rfl, rfl, hoD⟩ T.sa ?_
        refine PySem.OEX.osa_old X hx hns hw (by rw [List.length_map]; omega) hcd hmro hhd (T.noN _ hmem) (fun h' tk' k hn' => ?_)
        have hxd : x ≠ dx := fun z => by
          obtain ⟨o, es, ep, e1, e2, _⟩ := hns
          rw [← z, hx] at e1
          cases e1
          cases e2
        refine stores_old T hk hself hmx fs us' vs' hv' (fun q' hq' => hfn q' (List.mem_cons_of_mem _ hq')) hm' ((q.1, v) :: fV) _ ⟨h', g, d, tk', os⟩ Q
          (fun a o e => k a o (fun z => by rw [z, hKd] at e; cases e) (X a o e)) ?_ hL hKd (k _ _ hxd hx) hn' (L2.relO_put ru hr) (by simp only [List.length_cons] at hl ⊢; omega) (fun h2 tk2 mB k2 hn2 r2 => ?_)
        · obtain ⟨o, es, ep, e1, e2⟩ := hn
          exact ⟨o, es, ep, k _ _ hL e1, e2⟩
        · refine hq h2 tk2 mB (fun b o hb e => k2 b o hb (k b o hb e)) hn2 fun f => ?_
          have := r2 f
          simpa using this
/-- all stores: from an exception without a dict -/
theorem stores_new {names : List Str} (T : ClsK K C names) {env : Env} (hk : env.scope.kind = .function) (hself : env.kindOf "self" = some .local) {m : Str → Option Value} {x t0 : Addr} (hmx : m "self" = some (.ref x))
    (q : FP) (fs : List FP) (us : List Value) (vs : List L2.V) (hv : L2.Vals vs us) (hfn : ∀ q' ∈ q :: fs, q'.1 ∈ names ∧ env.kindOf q'.1 = some .local ∧ (q'.1 == ("__debug__" : Str)) = false) (hm : Paired (fun (q : FP) u => m q.1 = some u) (q :: fs) us) (s : Shared) (Q : Flow → Shared → Prop)
    (X : K.In s.heap) (hn : s.heap.Ns env.locals m) (hLx : env.locals ≠ x) (hKx : K.lookup x = none)
    (hx : s.heap.get? x = some { cls := .ref C, data := .fields #[.ref t0, .none, .none, .none, .bool false, .none] }) (hl : fs.length ≤ 800)
    (hq : ∀ h' tk dx mB, (∀ b o, b ≠ x → s.heap.get? b = some o → h'.get? b = some o) → s.heap.objs.size ≤ dx → dx ≠ x → h'.get? x = some { cls := .ref C, dict := some dx, data := .fields #[.ref t0, .none, .none, .none, .bool false, .none] } →
      h'.Ns1 dx mB → (∀ f, L2.RelO (((((q :: fs).map (·.1)).zip vs).reverse).lookup f) (mB f)) → Q .next { s with heap := h', toks := tk }) :
    wpAny (model prog w) A (execs ((q :: fs).map stF) env) Q E s := by
  cases hm with
  | cons hu hm' =>
    rename_i u us'
    cases hv with
    | cons ru hv' =>
      rename_i v vs'
      obtain ⟨hmem, hloc, hdb⟩ := hfn q (List.mem_cons_self ..)
      obtain ⟨cd, hcd, hmro, hhd⟩ := T.data
      obtain ⟨hp, g, d, tk, os⟩ := s
      show wpAny _ _ (execs (stF q :: fs.map stF) env) _ _ _
      refine wpAny_execs_cons (plainObj_wpAny_Assign_Attribute ?_ (swaps_attr env q))
      refine ld hn hu (ld hn hmx ?_ hk hself (by decide)) hk hloc hdb
      refine set_plain X (ox := { cls := .ref C, dict := none, data := .fields #[.ref t0, .none, .none, .none, .bool false, .none] }) (od := none) ⟨hx, rfl, rfl, trivial⟩ T.sa ?_
      refine exc_osa X hx hcd hmro hhd (T.noN _ hmem) (fun h' tk' dx k dn dne hx' hn' => ?_)
      have hbig : ∀ {b : Addr} {o : Obj}, hp.get? b = some o → b ≠ dx := fun {b o} e => Nat.ne_of_lt (Nat.lt_of_lt_of_le (Heap.lt_size e) dn)
      have hKd : K.lookup dx = none := by
        cases e : K.lookup dx with
        | none => rfl
        | some o => exact absurd rfl (hbig (X _ _ e))
      have hLd : env.locals ≠ dx := by
        obtain ⟨o, es, ep, e1, e2⟩ := hn
        exact hbig e1
      refine stores_old T hk hself hmx fs us' vs' hv' (fun q' hq' => hfn q' (List.mem_cons_of_mem _ hq')) hm' [(q.1, v)] _ ⟨h', g, d, tk', os⟩ Q
        (fun a o e => k a o (fun z => by rw [z, hKx] at e; cases e) (X a o e)) ?_ hLd hKd hx' hn' (L2.relO_put (fs := []) ru fun _ => True.intro) (by simp only [List.length_cons, List.length_nil] at hl ⊢; omega) (fun h2 tk2 mB k2 hn2 r2 => ?_)
      · obtain ⟨o, es, ep, e1, e2⟩ := hn
        exact ⟨o, es, ep, k _ _ hLx e1, e2⟩
      · refine hq h2 tk2 dx mB (fun b o hb e => k2 b o (hbig e) (k b o hb e)) dn dne (k2 _ _ (Ne.symm dne) hx') hn2 fun f => ?_
        have := r2 f
        simpa using this
/-- what the written part says of the class at C and of its __init__, at fI: its name is cn, its fields fs -/
structure ErrTxt (P : Program) (K : Frag) (mg : Str → Option Value) (tm : Bool) (cn : Str) (C fI : Addr) (fs : List Str) : Prop extends ClsK K C fs where
  gC : mg cn = some (.ref C)
  ga : findIn K (.ref C) "__getattribute__" = some (some (.builtin "BaseException.__getattribute__"))
  gg : findIn K (.ref C) "__getattr__" = some none
  iC : findIn K (.ref C) "__init__" = some (some (.ref fI))
  tC : typeIn K (.ref fI) = some (.type "function")
  kC : keepIn K (.ref C) = true
  exC : subIn K (.ref C) (.type "BaseException") = some true
  veC : subIn K (.ref C) (.type "ValueError") = some true
  tyC : typeIn K (.ref C) = some (.type "type")
  hdC : hasDictIn K C = true
  sup : ks_superIn K C C "__init__" = some (some (.builtin "ValueError.__init__"))
  mro : mroIn K C (.ref C) = some true
  sub : subIn K (.ref C) (.ref C) = some true
  ca : findIn K (.ref C) "__class__" = some (some (.builtin "object.__class__"))
  cg : specialIn K (.builtin "object.__class__") "__get__" = some (some (.builtin "getset_descriptor.__get__"))
  ct : takesIn K (.builtin "object.__class__") = some true
  mo : mroIn K C (.type "object") = some true
  opq : nsIn K cStatics "thirdparty.any" = some none
  msup : mg "super" = none
  top : (P.main.scope.names.lookup ("super" : Str)).isSome = false
  fn : ∃ (oc : Value) (od : Option Addr) (qual : Str) (par : Arguments) (sc : Scope) (msg : Expr) (p1 p2 p3 p4 p5 : Pos) (fp : List FP) (dV kV doc pm : Value) (an : Option Addr) (cda cc : Addr) (ct : Value) (osl : Array (Option Value)) (ar : Arg)
      (ccl cl : Value) (cdd cld : Option Addr) (ccs csl : Array (Option Value)) (vs : Array Value) (file : Str) (tf : Tok),
    K.lookup fI = some ⟨oc, od, .func (ksFn "__init__" qual par (stS msg p1 p2 p3 p4 p5 :: fp.map stF) sc dV kV doc pm an (.ref cda) ct cc), osl⟩ ∧ codeIn K (.ref cda) qual = true ∧
    (par.posonlyargs ++ par.args).head? = some ar ∧ ar.arg = "self" ∧ K.lookup cda = some ⟨ccl, cdd, .fields vs, ccs⟩ ∧ vs[2]? = some (.str file tf) ∧ ((P.main.file : Str) == file) = true ∧
    K.lookup cc = some ⟨cl, cld, .cell (some (.ref C)), csl⟩ ∧ fp.map (·.1) = fs ∧ (p3.endLine == p4.line) = true ∧
    (sc.names.lookup ("super" : Str) = some .globalImplicit ∧ sc.names.lookup ("__class__" : Str) = some .free ∧ sc.names.lookup ("self" : Str) = some .local ∧ (∀ f ∈ fs, sc.names.lookup f = some .local) ∧ (∀ f ∈ fs, (f == ("__debug__" : Str)) = false) ∧ (∀ y ∈ sc.names, y.2 ≠ .cell)) ∧
    (sc.kind = .function ∧ sc.isGenerator = false ∧ sc.isCoroutine = false) ∧
    (∀ (s : Shared) (x : Value) (us : List Value), us.length = fs.length → BindsTo s (ksFn "__init__" qual par (stS msg p1 p2 p3 p4 p5 :: fp.map stF) sc dV kV doc pm an (.ref cda) ct cc) ⟨x :: us, []⟩ (("self", x) :: fs.zip us)) ∧
    (∀ (x : Value) (us : List Value), us.length = fs.length → ((("self" : Str), x) :: fs.zip us).reverse.lookup ("self" : Str) = some x ∧ Paired (fun f u => ((("self" : Str), x) :: fs.zip us).reverse.lookup f = some u) fs us) ∧
    ((tm = false ∧ ∃ (z : Str) (i : Nat) (p : Pos), msg = .Constant (.str z) i p) ∨ tm = true ∧ ∃ (z f : Str) (i : Nat) (p p' p'' : Pos), msg = .BinOp (.Constant (.str z) i p) .Add (.Name f p') p'' ∧ z.length ≤ 100 ∧ fs.head? = some f)
/-- what __init__ leaves of a fresh exception at x -/
structure InitEnd (h h' : Heap) (x C dx t1 : Addr) (fs : List Str) (vs : List L2.V) : Prop where
  keep : ∀ b o, b ≠ x → h.get? b = some o → h'.get? b = some o
  obj : h'.get? x = some { cls := .ref C, dict := some dx, data := .fields #[.ref t1, .none, .none, .none, .bool false, .none] }
  dbig : h.objs.size ≤ dx
  dne : dx ≠ x
  ns : ∃ mB, h'.Ns1 dx mB ∧ ∀ f, L2.RelO ((fs.zip vs).reverse.lookup f) (mB f)
/-- the built-in __init__, bound, called -/
theorem call_bw {h : Heap} {g : Array GenState} {d : Drawn} {t : Nat} {os : OsState} {u e t0 : Addr} {rest : List Value} {names : List Str} {Q : Value → Shared → Prop} (T : ClsK K C names) (X : K.In h)
    (he : h.get? e = some (excO C t0)) (hu : h.get? u = some (kxs_mw "ValueError.__init__" e)) (hrest : rest.length ≤ sizeLine)
    (hq : ∀ h' t1, (∀ b o, b ≠ e → h.get? b = some o → h'.get? b = some o) → h'.get? e = some (excO C t1) → Q .none ⟨h', g, d, t, os⟩) :
    wpAny (model prog w) A (call (.ref u) rest) Q E ⟨h, g, d, t, os⟩ := by
  obtain ⟨nm, q, N, bs, bm, sn, sub, ab, col, dd, k0, k1, k2, k3, k5, hC, hbm⟩ := T.cls
  refine wpAny_call (codeAny_of_tree ?_)
  show wpAny _ A.in1 (callAny (.ref u) ⟨rest, []⟩) _ _ _
  simp only [callAny]
  refine wpAny_bind (wpAny_load hu ?_)
  simp only [kxs_mw, show (Value.type "method-wrapper" == Value.type "method" || Value.type "method-wrapper" == Value.type "builtin_function_or_method" || Value.type "method-wrapper" == Value.type "method-wrapper") = true by decide, if_true]
  refine W.KFB.if_so (by decide) ?_
  refine wpAny_bind (PySem.W.check_bound_init F.excBase_ValueError.toExcCallFacts (X _ _ hC) he rfl ?_)
  refine wpAny_bind (wpAny_pure (wpAny_pure ?_))
  refine ⟨plainId_quiet F.excBase_ValueError.init.plain _, codeAny_builtin F.excBase_ValueError.initEntry ?_⟩
  exact exc_init_tree (cls := .ref C) (t0 := t0) (dv := none) (c2 := .none) (c3 := .none) (b4 := .bool false) he hrest fun h' k e' _ => hq h' _ k e'
/-- the text that super().__init__ gets -/
def MsgOk (msg : Expr) (env : Env) (m : Str → Option Value) : Prop := ∀ (prog : Program) (w : World) (A : Around) (E : Value → Shared → Prop) (s : Shared) (Q : Value → Shared → Prop), s.heap.Ns env.locals m → (∀ v tk, Q v { s with toks := tk }) → wpAny (model prog w) A (eval msg env) Q E s
/-- its __init__, called -/
theorem err_init {mg : Str → Option Value} {cn : Str} {fI : Addr} {fs : List Str} {tm : Bool} (T : ErrTxt prog K mg tm cn C fI fs) {x t0 : Addr} {us : List Value} {vs : List L2.V} {mb : Str → Option Value} {R : Result → Shared → Prop} (hv : L2.Vals vs us) (hl : us.length = fs.length) (hl8 : fs.length ≤ 8) (hne : fs ≠ [])
    (hmsg : tm = true → ∀ u, us.head? = some u → ∃ (z : Str) (t : Tok), u = .str z t ∧ z.length ≤ 1000)
    (X : K.In s.heap) (hlim : s.heap.NoLimit) (hg : s.heap.Ns mainGlobals mg) (hb : s.heap.Ns builtinsNs mb) (hbs : mb "super" = bootBuiltins "super") (hx : s.heap.get? x = some (excO C t0)) (hnx : K.lookup x = none) (hroom : A.depth < recursionLimit)
    (hq : ∀ h' tk dx t1, InitEnd s.heap h' x C dx t1 fs vs → R (.ok (.ret .none)) { s with heap := h', toks := tk }) :
    codeAny (model prog w) A (.call (.ref fI) ⟨.ref x :: us, []⟩) R s := by
  obtain ⟨oc, od, qual, par, sc, msg, p1, p2, p3, p4, p5, fp, dV, kV, doc, pm, an, cda, cc, ct, osl, ar, ccl, cl, cdd, cld, ccs, csl, avs, file, tf, ho, hcd, har, hself, hcda, hfile, hfe, hcell, hfp, hpos, ⟨nS, nC, nSelf, nF, nD, nCell⟩, ⟨kF, kG, kCo⟩, hbind, hlook, hm⟩ := T.fn
  obtain ⟨lself, lf⟩ := hlook (.ref x) us hl
  obtain ⟨cd, hcd2, hmro, hhd⟩ := T.toClsK.data
  obtain ⟨oD, hD1, hD2⟩ : ∃ oD, s.heap.get? C = some oD ∧ oD.data = .cls cd := by
    unfold clsIn at hcd2
    split at hcd2
    · rename_i c d cd' sl ho'
      cases hcd2
      exact ⟨_, X _ _ ho', rfl⟩
    · cases hcd2
  have hxC : x ≠ C := fun z => by
    rw [z, hD1] at hx
    cases hx
    cases hD2
  refine ks_codeAny_call_defAt (fd := ksFn "__init__" qual par (stS msg p1 p2 p3 p4 p5 :: fp.map stF) sc dV kV doc pm an (.ref cda) ct cc) (body := stS msg p1 p2 p3 p4 p5 :: fp.map stF) (binds := ("self", .ref x) :: fs.zip us) hroom (X _ _ ho) rfl hlim (codeRec_of X hcd) rfl (hbind s (.ref x) us hl) nCell ?_ (fun h₁ hns hk₁ => ?_) kCo kG kF
  · intro y hy
    rcases List.mem_cons.mp hy with rfl | hy
    · exact nSelf
    · exact nF _ (List.of_mem_zip hy).1
  have X₁ : K.In h₁ := X.keeps hk₁
  have hx₁ := hk₁ _ _ hx
  have hLx : s.heap.objs.size ≠ x := Nat.ne_of_gt (Heap.lt_size hx)
  have hMsg : MsgOk msg (ksEnv qual sc s.heap.objs.size fI (.ref cda) cc) (fun y => (((("self" : Str), Value.ref x) :: fs.zip us).reverse.lookup y)) := by
    intro prog w A E s1 Q hn1 hq1
    rcases hm with ⟨_, z, i, p, rfl⟩ | ⟨htm, z, f, i, p, p', p'', rfl, hz, hf⟩
    · exact wpAny_Constant_str (hq1 _ _)
    · cases lf with
      | nil => cases hf
      | cons h1 _ =>
        cases hf
        obtain ⟨z2, t2, rfl, hz2⟩ := hmsg htm _ rfl
        refine wpAny_BinOp (wpAny_Constant_str (ld (env := ksEnv qual sc s.heap.objs.size fI (.ref cda) cc) hn1 h1 ?_ kF (nF _ (List.mem_cons_self ..)) (nD _ (List.mem_cons_self ..))))
        exact add_str (fun t' tk => hq1 _ _) (by rw [sizeLine_eq]; omega)
  obtain ⟨kind, names, isG, isC, more⟩ := sc
  dsimp only at kF kG kCo nS nC nSelf nF nCell
  subst kF kG kCo
  obtain ⟨pl, he⟩ : ∃ pl, eval (.Call (.Attribute (.Call (.Name "super" p1) [] [] p2) "__init__" p3) [msg] [] p4) (ksEnv qual ⟨.function, names, false, false, more⟩ s.heap.objs.size fI (.ref cda) cc) = (do
      let ov ← attributeBase (.Call (.Name "super" p1) [] [] p2) "__init__" (ksEnv qual ⟨.function, names, false, false, more⟩ s.heap.objs.size fI (.ref cda) cc) (eval (.Call (.Name "super" p1) [] [] p2) (ksEnv qual ⟨.function, names, false, false, more⟩ s.heap.objs.size fI (.ref cda) cc))
      standAt p3.atName
      let (f, first) ← holding [ov] (getMethod ov "__init__" pl)
      callWith p4 f first (backTo p4 (starEach [msg] (ksEnv qual ⟨.function, names, false, false, more⟩ s.heap.objs.size fI (.ref cda) cc))) []) := by
    have hmp : ∀ o env, methodCallPos true o env p3 p4 = pure p4 := fun o env => by
      unfold methodCallPos
      rw [hpos] <;> rfl
    have key : ∀ ms : Expr, methodCallForm ([ms].length + ([] : List Keyword).length) (backTo p4 (starEach [ms] (ksEnv qual ⟨.function, names, false, false, more⟩ s.heap.objs.size fI (.ref cda) cc))) (backToKw p4 (keywordEach [] (ksEnv qual ⟨.function, names, false, false, more⟩ s.heap.objs.size fI (.ref cda) cc))) = true →
        eval (.Call (.Attribute (.Call (.Name "super" p1) [] [] p2) "__init__" p3) [ms] [] p4) (ksEnv qual ⟨.function, names, false, false, more⟩ s.heap.objs.size fI (.ref cda) cc) = (do
      let ov ← attributeBase (.Call (.Name "super" p1) [] [] p2) "__init__" (ksEnv qual ⟨.function, names, false, false, more⟩ s.heap.objs.size fI (.ref cda) cc) (eval (.Call (.Name "super" p1) [] [] p2) (ksEnv qual ⟨.function, names, false, false, more⟩ s.heap.objs.size fI (.ref cda) cc))
      standAt p3.atName
      let (f, first) ← holding [ov] (getMethod ov "__init__" (do return (← importBound (.Call (.Name "super" p1) [] [] p2) (ksEnv qual ⟨.function, names, false, false, more⟩ s.heap.objs.size fI (.ref cda) cc)).getD true))
      callWith p4 f first (backTo p4 (starEach [ms] (ksEnv qual ⟨.function, names, false, false, more⟩ s.heap.objs.size fI (.ref cda) cc))) []) := by
      intro ms hf
      show (do
        let ov ← attributeBase (.Call (.Name "super" p1) [] [] p2) "__init__" (ksEnv qual ⟨.function, names, false, false, more⟩ s.heap.objs.size fI (.ref cda) cc) (eval (.Call (.Name "super" p1) [] [] p2) (ksEnv qual ⟨.function, names, false, false, more⟩ s.heap.objs.size fI (.ref cda) cc))
        standAt p3.atName
        methodCall (.Call (.Name "super" p1) [] [] p2) "__init__" p3 p4 (ksEnv qual ⟨.function, names, false, false, more⟩ s.heap.objs.size fI (.ref cda) cc) ov ([ms].length + ([] : List Keyword).length) (backTo p4 (starEach [ms] (ksEnv qual ⟨.function, names, false, false, more⟩ s.heap.objs.size fI (.ref cda) cc))) (backToKw p4 (keywordEach [] (ksEnv qual ⟨.function, names, false, false, more⟩ s.heap.objs.size fI (.ref cda) cc)))) = _
      unfold methodCall
      simp only [hf, hmp, pure_bind]
      rfl
    rcases hm with ⟨_, z, i, p, rfl⟩ | ⟨htm, z, f, i, p, p', p'', rfl, hz, hf⟩
    · exact ⟨_, key _ rfl⟩
    · exact ⟨_, key _ rfl⟩
  have hst : starEach [msg] (ksEnv qual ⟨.function, names, false, false, more⟩ s.heap.objs.size fI (.ref cda) cc) = [(false, eval msg (ksEnv qual ⟨.function, names, false, false, more⟩ s.heap.objs.size fI (.ref cda) cc))] := by
    rcases hm with ⟨_, z, i, p, rfl⟩ | ⟨htm, z, f, i, p, p', p'', rfl, hz, hf⟩
    · rfl
    · rfl
  -- super().__init__(..)
  refine ks_wpAt_execs_cons (ks_wpAt_Expr_any (ks_wpAt_MethodCall (pl := pl) ?_ he))
  refine ks_wpAt_super_base (env := ksEnv qual ⟨.function, names, false, false, more⟩ s.heap.objs.size fI (.ref cda) cc) nS nC (by decide) rfl (hk₁ _ _ (X _ _ ho)) rfl har rfl (X₁ _ _ hcda) rfl hfile hfe T.top ?_
  refine ks_loadName_global rfl nS (loadGlobal_builtin (env := ksEnv qual ⟨.function, names, false, false, more⟩ s.heap.objs.size fI (.ref cda) cc) (hg.keeps hk₁) T.msup (hb.keeps hk₁) (hbs.trans (by first | boot_by_name | rfl | kernel_rfl)) ⟨rfl, ?_⟩)
  refine wpAny_loadName_free rfl nC rfl ⟨_, X₁ _ _ hcell, rfl⟩ ?_
  rw [hself]
  refine wpAny_loadName_local rfl nSelf hns lself ?_
  refine ks_wpAny_isType_cls (hk₁ _ _ hD1) hD2 ⟨rfl, ?_⟩
  refine ks_wpAny_call_super (hk₁ _ _ hD1) hD2 hx₁ rfl (fun c e => by cases e) (looks_mroIn X₁ T.mro) (fun h₂ eso k₂ => ?_)
  have X₂ : K.In h₂ := X₁.keeps k₂
  have hx₂ := k₂ _ _ hx₁
  have hnsU : ∀ {h : Heap}, (∀ b o, h₁.get? b = some o → h.get? b = some o) → h.Ns s.heap.objs.size (fun y => ((("self" : Str), Value.ref x) :: fs.zip us).reverse.lookup y) := fun {h} k => hns.keeps k
  have hsup := T.sup
  unfold ks_superIn at hsup
  rw [hcd2] at hsup
  refine kxs_getMethod kxs_ValueError (K := K) eso (looks_opaque X₂ T.opq) (l₀ := cd.mro) ?_ rfl X₂ hsup ?_ hxC (by decide) ?_
  · exact fun A Q E s k q => wpAny_bind ((looks_clsIn X₂ hcd2) A _ E s k (wpAny_pure q))
  · exact (InstAt.type (od := none) ⟨hx₂, rfl, rfl, trivial⟩).andThen (looks_subIn X₂ T.veC)
  · have k₃ : ∀ b o, h₂.get? b = some o → (h₂.push (kxs_mw "ValueError.__init__" x)).get? b = some o := fun b o e => Heap.get?_push_of_some _ e
    show wpAny _ _ (callWith p4 (.ref h₂.objs.size) [] (backTo p4 (starEach [msg] (ksEnv qual ⟨.function, names, false, false, more⟩ s.heap.objs.size fI (.ref cda) cc))) []) _ _ _
    rw [hst]
    refine kxs_callWith (i := "ValueError.__init__") (x := x) rfl (evalArgs_plain ?_)
    refine spliced_cons ?_
    refine hMsg prog w _ _ _ _ (hnsU fun b o e => k₃ b o (k₂ b o e)) (fun v tk => spliced_nil ⟨?_, ?_⟩)
    · exact Heap.get?_push_at rfl rfl
    · refine call_bw T.toClsK (X₂.keeps k₃) (k₃ _ _ hx₂) (Heap.get?_push_at rfl rfl) (by rw [sizeLine_eq]; exact (by decide : 1 ≤ 16777216)) (fun h₄ t1 k₄ hx₄ => ?_)
      have hsz : ∀ {b : Addr} {o : Obj}, s.heap.get? b = some o → b ≠ x → h₄.get? b = some o := fun {b o} e hb => k₄ b o hb (k₃ b o (k₂ b o (hk₁ b o e)))
      have hL4 : h₄.Ns s.heap.objs.size (fun y => ((("self" : Str), Value.ref x) :: fs.zip us).reverse.lookup y) := by
        obtain ⟨o, es, ep, e1, e2⟩ := hns
        exact ⟨o, es, ep, k₄ _ _ hLx (k₃ _ _ (k₂ _ _ e1)), e2⟩
      cases fp with
      | nil => exact absurd hfp.symm (by simpa using hne)
      | cons q fp =>
        have hP : Paired (fun (q : FP) u => ((("self" : Str), Value.ref x) :: fs.zip us).reverse.lookup q.1 = some u) (q :: fp) us := by
          rw [← hfp] at lf
          have key : ∀ (m : Str → Option Value) (l : List FP) (us : List Value), Paired (fun f u => m f = some u) (l.map (·.1)) us → Paired (fun (q : FP) u => m q.1 = some u) l us := by
            intro m l
            induction l with
            | nil => intro us h; cases h; exact .nil
            | cons a l ih => intro us h; cases h with | cons h1 h2 => exact .cons h1 (ih _ h2)
          have := key (fun y => ((("self" : Str), Value.ref x) :: fs.zip us).reverse.lookup y) (q :: fp) us (by simpa [hfp] using lf)
          exact this
        show wpAt _ _ _ (execs ((q :: fp).map stF) _) _ _ _
        refine wpAt_of_wpAny (stores_new (m := fun y => (((("self" : Str), Value.ref x) :: fs.zip us).reverse.lookup y)) T.toClsK (env := ksEnv qual ⟨.function, names, false, false, more⟩ s.heap.objs.size fI (.ref cda) cc) rfl nSelf lself q fp us vs hv (fun q' hq' => ?_) hP ⟨h₄, s.gens, s.drawn, tk, s.os⟩ _ ((fun a o e => hsz (X a o e) (fun z => by rw [z, hnx] at e; cases e))) hL4 hLx hnx hx₄ ?_ (fun h' tk' dx mB k5 dn dne hx5 hn5 r5 => ?_))
        · have hin : q'.1 ∈ fs := by rw [← hfp]; exact List.mem_map_of_mem hq'
          exact ⟨hin, nF _ hin, nD _ hin⟩
        · have : (q :: fp).length = fs.length := by rw [← hfp, List.length_map]
          simp only [List.length_cons] at this
          omega
        · refine hq h' tk' dx t1 ⟨fun b o hb e => k5 b o hb (hsz e hb), hx5, ?_, dne, mB, hn5, ?_⟩
          · refine Nat.le_trans ?_ dn
            have z1 : s.heap.objs.size < h₄.objs.size := by
              obtain ⟨o, es, ep, e1, e2⟩ := hL4
              exact Heap.lt_size e1
            exact Nat.le_of_lt z1
          · intro f
            have := r5 f
            rw [hfp] at this
            exact this
/-- a made error -/
structure OwnMade (h h' : Heap) (e C d : Addr) (fs : List Str) (vs : List L2.V) : Prop where
  keep : ∀ b o, h.get? b = some o → h'.get? b = some o
  new : h.objs.size ≤ e
  obj : ∃ oe as, h'.get? e = some oe ∧ oe.cls = .ref C ∧ oe.dict = some d ∧ oe.data = .fields as ∧ as[1]? = some .none
  dbig : h.objs.size ≤ d
  dne : d ≠ e
  ns : ∃ mB, h'.Ns1 d mB ∧ ∀ f, L2.RelO ((fs.zip vs).reverse.lookup f) (mB f)
theorem err_made {mg : Str → Option Value} {cn : Str} {fI : Addr} {fs : List Str} {tm : Bool} (T : ErrTxt prog K mg tm cn C fI fs) {us : List Value} {vs : List L2.V} {mb : Str → Option Value} {R : Result → Shared → Prop} (hv : L2.Vals vs us) (hl : us.length = fs.length) (hl8 : fs.length ≤ 8) (hne : fs ≠ [])
    (hmsg : tm = true → ∀ u, us.head? = some u → ∃ (z : Str) (t : Tok), u = .str z t ∧ z.length ≤ 1000)
    (X : K.In s.heap) (hlim : s.heap.NoLimit) (hg : s.heap.Ns mainGlobals mg) (hb : s.heap.Ns builtinsNs mb) (hbs : mb "super" = bootBuiltins "super") (hroom : A.depth + 1 < recursionLimit)
    (hq : ∀ h' tk e d, OwnMade s.heap h' e C d fs vs → R (.ok (.ret (.ref e))) { s with heap := h', toks := tk }) :
    codeAny (model prog w) A (.call (.ref C) ⟨us, []⟩) R s := by
  obtain ⟨nm, q, N, bs, bm, sn, sub, ab, col, dd, k0, k1, k2, k3, k5, hC, hbm⟩ := T.cls
  obtain ⟨hp, g, dr, tk, os⟩ := s
  have k : ∀ b o, hp.get? b = some o → ((hp.push (kdv_tup us)).push (excO C hp.objs.size)).get? b = some o := fun b o e => Heap.get?_push_of_some _ (Heap.get?_push_of_some _ e)
  have hget : ((hp.push (kdv_tup us)).push (excO C hp.objs.size)).get? (hp.objs.size + 1) = some (excO C hp.objs.size) := by heap_get
  have hnx : K.lookup (hp.objs.size + 1) = none := by
    cases e : K.lookup (hp.objs.size + 1) with
    | none => rfl
    | some o =>
      have z : hp.get? (hp.objs.size + 1) = some o := X _ _ e
      exact absurd (Nat.lt_of_succ_lt (Heap.lt_size z)) (Nat.lt_irrefl _)
  refine call_own F.excBase_ValueError (fun X => refsVE_contains X bm hbm) (X _ _ hC) (looks_findIn X T.iC) (fun self => bind_fn X self T.tC) (by rw [sizeLine_eq]; omega) ?_
  refine err_init (s := ⟨(hp.push (kdv_tup us)).push (excO C hp.objs.size), g, dr, tk, os⟩) T hv hl hl8 hne hmsg (X.keeps k) (hlim.keeps k) (hg.keeps k) (hb.keeps k) hbs hget hnx ?_ fun h' tk' dx t1 ⟨k', hx, dn, dne, hns⟩ => ?_
  · show A.depth + 1 < recursionLimit
    exact hroom
  · have old : ∀ b o, hp.get? b = some o → h'.get? b = some o := fun b o e => k' b o (Nat.ne_of_lt (Nat.lt_succ_of_lt (Heap.lt_size e))) (k b o e)
    have z : hp.objs.size + 1 + 1 ≤ dx := by
      first
        | (simpa only [Heap.size_push] using dn)
        | exact dn
        | (have q := dn; rw [Heap.size_push, Heap.size_push] at q; exact q)
    exact ⟨rfl, hq h' tk' (hp.objs.size + 1) dx ⟨old, Nat.le_succ _, ⟨_, _, hx, rfl, rfl, rfl, rfl⟩, Nat.le_trans (Nat.le_trans (Nat.le_succ _) (Nat.le_succ _)) z, dne, hns⟩⟩
end
end HErr
end PySem
namespace L2
open PySem PySem.Spec PyProof.Rows PySem.HErr
section
variable {X : Cx} {C fI : Addr} {cn : Str} {fs : List Str} {tm : Bool}
/-- C(e, ..), an error of the package -/
def tMkE (tm : Bool) (C : Addr) (fs : List Str) (ta : TA) : St → Hp → XK → Prop := fun σ H Q => ta σ H fun vs H1 => vs.length = fs.length ∧ (tm = true → ∃ (z : Str) (r : List V), vs = .str z :: r ∧ z.length ≤ 1000) ∧
  ∀ d, H1 d = none → Q (.ref C) (some d) (upd H1 d (.xd (fs.zip vs).reverse))
theorem pmk_err {a : Expr} {as : List Expr} {ta : TA} {p pos : Pos} {k : Nat} (T : ErrTxt X.prog X.K X.mg tm cn C fI fs) (hr : Room k X.A) (ha : PA X (a :: as) ta) (hl8 : fs.length ≤ 8) (hne : fs ≠ []) (hg : Gl X cn := by rfl) (hdb : (cn == ("__debug__" : Str)) = false := by decide)
    (he : starEach (a :: as) X.env = (false, eval a X.env) :: starEach as X.env := by rfl) (hpl : (backTo pos (starEach as X.env)).any (·.1) = false := by rfl) :
    PMk X (.Call (.Name cn p) (a :: as) [] pos) (tMkE tm C fs ta) := by
  intro pins s σ H Q I h
  refine wpAny_Call_Name_kw (ld_glob I hg T.gC ?_ hdb)
  refine PySem.W.callWith_K (h₀ := X.base) I.ok.mod.kin T.kC (thn (ha.run pos pins s σ H _ I h) fun us s1 hh => ?_) he hpl
  obtain ⟨vs, H1, I1, r1, hl, hz, q1⟩ := hh
  refine ⟨I1.kIn, ?_⟩
  show wpAny _ _ (call (.ref C) us) _ _ _
  have hlim := I1.nolimit
  obtain ⟨mb, hb1, hb2⟩ := I1.mod.blt
  have hgl := I1.mod.glob.keeps I1.bk
  have hbl := hb1.keeps I1.bk
  obtain ⟨hp, g, dr, tk, os⟩ := s1
  refine wpAny_call (err_made (mb := mb) T r1 (r1.length.symm.trans hl) hl8 hne ?_ I1.kIn hlim hgl hbl (hb2 "super" (by decide)) (by have := hr.dp; omega) fun h' tk' e d M => ?_)
  · intro ht u hu
    obtain ⟨z, r, rfl, hz5⟩ := hz ht
    cases r1 with
    | cons r0 _ =>
      cases hu
      obtain ⟨t, rfl⟩ := r0
      exact ⟨z, t, rfl, hz5⟩
  show MkP X pins σ Q (.ref e) ⟨h', g, dr, tk', os⟩
  obtain ⟨oe, fv, hoe, hc, hd, hdat, h1⟩ := M.obj
  obtain ⟨mB, hns, hrel⟩ := M.ns
  obtain ⟨G', g1, g2⟩ := restrict h' fun b => decide (b ≠ e)
  have gk : ∀ b, b ≠ e → G'.get? b = h'.get? b := fun b hb => g1 b (decide_eq_true hb)
  have ge : G'.get? e = none := g2 e (by simp)
  have old : ∀ b o, hp.get? b = some o → G'.get? b = some o := fun b o q => (gk b (Nat.ne_of_lt (Nat.lt_of_lt_of_le (Heap.lt_size q) M.new))).trans (M.keep b o q)
  have ob : ObjOk X.prog X.w (upd H1 d (.xd (fs.zip vs).reverse)) G' d (.xd (fs.zip vs).reverse) :=
    ⟨mB, hns.at (fun o q => (gk d M.dne).trans q), hrel⟩
  have J : Inv X pins σ (upd H1 d (.xd (fs.zip vs).reverse)) ⟨G', g, dr, tk', os⟩ := I1.laid (t' := tk') old M.dbig ob
  refine ⟨e, oe, fv, ⟨G', g, dr, tk', os⟩, _, .ref C, some d, rfl, J, fun b o q => ?_, ge, hoe, ⟨hc, hd⟩, hdat, h1, ?_, rfl, I1.bare, raises_own T.exC T.tyC, q1 d (I1.hok.fresh M.dbig)⟩
  · by_cases hb : b = e
    · have q' : G'.get? b = some o := q
      rw [hb, ge] at q'; cases q'
    · exact (gk b hb).symm.trans q
  · rw [upd_ne (Ne.symm M.dne)]
    exact I1.hok.fresh M.new
/-- raise C(e, ..) -/
def tRaiseE (tm : Bool) (C : Addr) (fs : List Str) (W : WX) (ta : TA) : TS := fun _ σ H => tMkE tm C fs ta σ H fun cls d H' => W cls d σ H'
theorem ps_raiseE {a : Expr} {as : List Expr} {ta : TA} {W : WX} {p pos pos2 : Pos} {k : Nat} (hc : X.calm = true) (T : ErrTxt X.prog X.K X.mg tm cn C fI fs) (hr : Room k X.A) (tk : Takes X W) (ha : PA X (a :: as) ta) (hl8 : fs.length ≤ 8 := by decide) (hne : fs ≠ [] := by decide) (hg : Gl X cn := by rfl) (hdb : (cn == ("__debug__" : Str)) = false := by decide)
    (he : starEach (a :: as) X.env = (false, eval a X.env) :: starEach as X.env := by rfl) (hpl : (backTo pos (starEach as X.env)).any (·.1) = false := by rfl) :
    PS X (.Raise (some (.Call (.Name cn p) (a :: as) [] pos)) none pos2) (tRaiseE tm C fs W ta) := ps_raise hc tk (pmk_err T hr ha hl8 hne hg hdb he hpl)
/-- an own class in an except clause -/
theorem _root_.PySem.HErr.ErrTxt.xf {P : Program} {K : PySem.W.Frag} {mg : Str → Option Value} (T : ErrTxt P K mg tm cn C fI fs) : XfC K C := ⟨T.ga, T.gg, T.exC, T.hdC⟩
theorem _root_.PySem.HErr.ErrTxt.te {P : Program} {K : PySem.W.Frag} {mg : Str → Option Value} (T : ErrTxt P K mg tm cn C fI fs) : PySem.W.exmOne K (.ref C) (.ref C) = some true := PySem.W.exm_ref T.exC T.hdC T.tyC T.sub
end
end L2
set_option Elab.async false
set_option linter.all false
set_option maxRecDepth 100000
set_option maxHeartbeats 4000000
namespace L2
open PySem PySem.Spec PyProof.Rows PySem.HErr
end L2
set_option Elab.async false
set_option linter.all false
set_option maxRecDepth 100000
set_option maxHeartbeats 4000000
namespace L2
open PySem PySem.Spec PyProof.Rows PySem.HErr
/-- none of these built-ins is shadowed -/
structure Bl (mg : Str → Option Value) : Prop where
  len : mg "len" = none
  range : mg "range" = none
  abs : mg "abs" = none
  sum : mg "sum" = none
  sorted : mg "sorted" = none
  isinstance : mg "isinstance" = none
  zip : mg "zip" = none
  enumerate : mg "enumerate" = none
  reversed : mg "reversed" = none
  int' : mg "int" = none
  str' : mg "str" = none
  list' : mg "list" = none
  tuple' : mg "tuple" = none
  bool' : mg "bool" = none
  all' : mg "all" = none
  any' : mg "any" = none
  ValueError : mg "ValueError" = none
/-- the module's name x is the value v -/
def Glo (mg : Str → Option Value) (x : Str) (v : V) : Prop := ∃ u, mg x = some u ∧ RelV v u
/-- where a def's text stands -/
def LkF (K : PySem.W.Frag) (f : Addr) (fd : FuncData) : Prop := ∃ (oc : Value) (od : Option Addr) (osl : Array (Option Value)), K.lookup f = some ⟨oc, od, .func fd, osl⟩
/-- a def, with whatever defaults -/
structure FunA (K : PySem.W.Frag) (x qual : Str) (st : Stmt) (f : Addr) (fd : FuncData) : Prop where
  ex : ∃ (oc : Value) (od : Option Addr) (dV kV doc pm : Value) (an : Option Addr) (cdv ct : Value) (osl : Array (Option Value)),
    fd = PySem.W.fnOf x qual (defArgs st) (defBody st) (defScope st) dV kV doc pm an cdv ct ∧ K.lookup f = some ⟨oc, od, .func fd, osl⟩ ∧ PySem.W.codeIn K cdv qual = true
  kp : PySem.W.keepIn K (.ref f) = true
section
variable {P : Program} {w : World} {K : PySem.W.Frag} {mg : Str → Option Value} {base : Heap}
theorem FunA.lk {x qual : Str} {st : Stmt} {f : Addr} {fd : FuncData} (F : FunA K x qual st f fd) : LkF K f fd := by
  obtain ⟨oc, od, dV, kV, doc, pm, an, cdv, ct, osl, _, lk, _⟩ := F.ex
  exact ⟨oc, od, osl, lk⟩
theorem PySem_Fun_a {x qual : Str} {st : Stmt} {f : Addr} {fd : FuncData} (F : Fun K x qual st f fd) : FunA K x qual st f fd := by
  obtain ⟨oc, od, kV, doc, pm, an, cdv, ct, osl, e, lk, hcd⟩ := F.ex
  exact ⟨⟨oc, od, .none, kV, doc, pm, an, cdv, ct, osl, e, lk, hcd⟩, F.kp⟩
theorem FunA.ok {x qual : Str} {st : Stmt} {f : Addr} {fd : FuncData} {N ps : List Str} {k : Nat} {sp : Sp} (F : FunA K x qual st f fd) (S : FnScope N ps (defScope st)) (len : ∀ vs H Q E, sp vs H Q E → vs.length = ps.length)
    (hbody : ∀ (cdv : Value) (A : Around) (outer : List Env) (s : Shared) (H : Hp) (vs : List V) (Q : VK) (E : XK), Room k (A.deeper (envOfC qual (defScope st) s.heap.objs.size f cdv)) → sp vs H Q E →
      ∃ t, PSs (cxOf CX0 P w K mg base N qual (defScope st) f cdv A outer s H E).nox (defBody st) t ∧ t { nx := fun _ H' => Q .non H', rt := Q } (start N vs) H) : FnOk P w K mg base CX0 (k + 1) f fd ps sp := by
  obtain ⟨oc, od, dV, kV, doc, pm, an, cdv, ct, osl, rfl, lk, hcd⟩ := F.ex
  refine fn_of lk hcd S len fun A outer s H vs Q E hr hsp => ?_
  obtain ⟨t, h, q⟩ := hbody cdv A outer s H vs Q E hr hsp
  exact ⟨t, h.nox, q⟩
theorem FunA.okX {x qual : Str} {st : Stmt} {f : Addr} {fd : FuncData} {N ps : List Str} {k : Nat} {sp : Sp} (F : FunA K x qual st f fd) (S : FnScope N ps (defScope st)) (len : ∀ vs H Q E, sp vs H Q E → vs.length = ps.length)
    (hbody : ∀ (cdv : Value) (A : Around) (outer : List Env) (s : Shared) (H : Hp) (vs : List V) (Q : VK) (E : XK), Room k (A.deeper (envOfC qual (defScope st) s.heap.objs.size f cdv)) → sp vs H Q E →
      ∃ t, PSs (cxOf (L2.CX P w) P w K mg base N qual (defScope st) f cdv A outer s H E) (defBody st) t ∧ t { nx := fun _ H' => Q .non H', rt := Q } (start N vs) H) : FnOk P w K mg base (L2.CX P w) (k + 1) f fd ps sp := by
  obtain ⟨oc, od, dV, kV, doc, pm, an, cdv, ct, osl, rfl, lk, hcd⟩ := F.ex
  exact fn_of lk hcd S len fun A outer s H vs Q E hr hsp => hbody cdv A outer s H vs Q E hr hsp
end
/-- a def of the text stands where its name says -/
structure Src (K : PySem.W.Frag) (mg : Str → Option Value) (x : Str) (st : Stmt) (ps : List Str) : Prop where
  ex : ∃ f fd, FunA K x x st f fd ∧ mg x = some (.ref f) ∧ Binds K fd ps []
/-- the def x keeps the promise sp -/
structure Def (P : Program) (w : World) (K : PySem.W.Frag) (mg : Str → Option Value) (base : Heap) (CX : CXT) (k : Nat) (x : Str) (ps : List Str) (sp : Sp) : Prop where
  ex : ∃ f fd, LkF K f fd ∧ mg x = some (.ref f) ∧ PySem.W.keepIn K (.ref f) = true ∧ Binds K fd ps [] ∧ FnOk P w K mg base CX k f fd ps sp
section
variable {P : Program} {w : World} {K : PySem.W.Frag} {mg : Str → Option Value} {base : Heap} {CX : CXT} {x : Str} {st : Stmt} {N ps : List Str} {k : Nat} {sp : Sp}
theorem Def.mono {j : Nat} (D : Def P w K mg base CX j x ps sp) (h : j ≤ k) : Def P w K mg base CX k x ps sp := by
  obtain ⟨f, fd, hlk, h1, h2, h3, h4⟩ := D.ex
  exact ⟨f, fd, hlk, h1, h2, h3, h4.mono h⟩
theorem Def.imp {sp' : Sp} (D : Def P w K mg base CX k x ps sp) (h : ∀ vs H Q E, sp' vs H Q E → sp vs H Q E) : Def P w K mg base CX k x ps sp' := by
  obtain ⟨f, fd, hlk, h1, h2, h3, h4⟩ := D.ex
  exact ⟨f, fd, hlk, h1, h2, h3, h4.imp h⟩
theorem Src.ok (F : Src K mg x st ps) (S : FnScope N ps (defScope st)) (len : ∀ vs H Q E, sp vs H Q E → vs.length = ps.length)
    (hbody : ∀ (f : Addr) (cdv : Value) (A : Around) (outer : List Env) (s : Shared) (H : Hp) (vs : List V) (Q : VK) (E : XK), Room k (A.deeper (envOfC x (defScope st) s.heap.objs.size f cdv)) → sp vs H Q E →
      ∃ t, PSs (cxOf CX0 P w K mg base N x (defScope st) f cdv A outer s H E).nox (defBody st) t ∧ t { nx := fun _ H' => Q .non H', rt := Q } (start N vs) H) : Def P w K mg base CX0 (k + 1) x ps sp := by
  obtain ⟨f, fd, h1, h2, h3⟩ := F.ex
  exact ⟨f, fd, h1.lk, h2, h1.kp, h3, h1.ok S len (hbody f)⟩
theorem Src.okX (F : Src K mg x st ps) (S : FnScope N ps (defScope st)) (len : ∀ vs H Q E, sp vs H Q E → vs.length = ps.length)
    (hbody : ∀ (f : Addr) (cdv : Value) (A : Around) (outer : List Env) (s : Shared) (H : Hp) (vs : List V) (Q : VK) (E : XK), Room k (A.deeper (envOfC x (defScope st) s.heap.objs.size f cdv)) → sp vs H Q E →
      ∃ t, PSs (cxOf (L2.CX P w) P w K mg base N x (defScope st) f cdv A outer s H E) (defBody st) t ∧ t { nx := fun _ H' => Q .non H', rt := Q } (start N vs) H) : Def P w K mg base (L2.CX P w) (k + 1) x ps sp := by
  obtain ⟨f, fd, h1, h2, h3⟩ := F.ex
  exact ⟨f, fd, h1.lk, h2, h1.kp, h3, h1.okX S len (hbody f)⟩
end
section
variable {X : Cx} {CX : CXT} {k : Nat} {ps : List Str} {sp : Sp} {x : Str} {p pos : Pos} {e : Expr} {es : List Expr} {t : TA}
theorem pe_def {E : XK} (D : Def X.prog X.w X.K X.mg X.base CX k x ps sp) (hr : Room k X.A) (hx : Passes CX X E) (ha : PA X (e :: es) t) (hg : Gl X x := by rfl)
    (hdb : (x == ("__debug__" : Str)) = false := by decide) (he : starEach (e :: es) X.env = (false, eval e X.env) :: starEach es X.env := by rfl) (hpl : (backTo pos (starEach es X.env)).any (·.1) = false := by rfl) :
    PE X (.Call (.Name x p) (e :: es) [] pos) (tCall sp [] E t) := by
  obtain ⟨f, fd, hlk, h1, h2, h3, h4⟩ := D.ex
  exact pe_call h4 hr hg h1 h2 h3 .nil hx ha hdb he hpl
theorem pe_glo {v : V} (h : Glo X.mg x v) (hg : Gl X x := by rfl) (hd : (x == ("__debug__" : Str)) = false := by decide) : PE X (.Name x p) (tC v) := by
  obtain ⟨u, h1, h2⟩ := h
  exact pe_glob hg h1 h2 hd
end
section
variable {X : Cx} {K : PySem.W.Frag}
def rLenQ (K : PySem.W.Frag) : List V → Hp → VK → Prop := fun xs H Q => ∃ p ys, xs = [.ref p] ∧ (SqL K H p ys ∨ SqT K H p ys) ∧ Q (.int ys.length) H
def rListQ (K : PySem.W.Frag) : List V → Hp → VK → Prop := fun xs H Q => ∃ p ys, xs = [.ref p] ∧ (SqL K H p ys ∨ SqT K H p ys) ∧ ∀ l, H l = none → Q (.ref l) (upd H l (.lst ys))
def rTupQ (K : PySem.W.Frag) : List V → Hp → VK → Prop := fun xs H Q => ∃ p ys, xs = [.ref p] ∧ ((SqL K H p ys ∧ ∀ l, H l = none → Q (.ref l) (upd H l (.tup ys))) ∨ (SqT K H p ys ∧ Q (.ref p) H))
theorem kix_list (h : X.K = K := by rfl) : IxR X (rIxL K) := h ▸ ix_list
theorem kop_eqD (hu : X.A.units + 64 < cLine) (h : X.K = K := by rfl) : OpR X (compareOp .Eq) (rEqD K) := h ▸ op_eqD hu
theorem kcall_len (h : X.K = K := by rfl) : CallR X (.builtin "len") (rLenQ K) := h ▸ call_len_seq
theorem kcr_all (hc : X.calm = true) (h : X.K = K := by rfl) : CallR X (.builtin "all") (rAll K) := h ▸ cr_all hc
theorem kcall_isi (h : X.K = K := by rfl) : CallR X (.builtin "isinstance") (rIsi K) := h ▸ call_isi
theorem kpi_list {tg l : Expr} {tl : TE} (hl : PE X l tl) (h : X.K = K := by rfl) : PI X tg l (iList K tl) := h ▸ pi_list hl
theorem kpe_fld {e : Expr} {f : Str} {pos : Pos} {ta : TE} (he : PE X e ta) (hb : attributeBase e f X.env (eval e X.env) = eval e X.env := by rfl) (h : X.K = K := by rfl) : PE X (.Attribute e f pos) (tFld K ta f) := h ▸ pe_fld he hb
end
theorem same_upd {H : Hp} {p : Addr} {o : HO} (h : H p = none) : Same H (upd H p o) := fun b x e => by
  rw [upd_ne (ne_of_none e h)]
  exact e
/-- all that was tracked is as it was, but for what stands at b -/
def SameB (b : Addr) (H H' : Hp) : Prop := ∀ a o, a ≠ b → H a = some o → H' a = some o
theorem SameB.refl (b : Addr) (H : Hp) : SameB b H H := fun _ _ _ h => h
theorem SameB.trans {b : Addr} {H H1 H2 : Hp} (x : SameB b H H1) (y : SameB b H1 H2) : SameB b H H2 := fun a o n h => y a o n (x a o n h)
theorem Same.b {b : Addr} {H H' : Hp} (h : Same H H') : SameB b H H' := fun a o _ e => h a o e
theorem SameB.upd {b : Addr} {H H' : Hp} {o : HO} (h : SameB b H H') : SameB b H (upd H' b o) := fun a u n e => by
  rw [upd_ne n]
  exact h a u n e
theorem SameB.new {b p : Addr} {H H' : Hp} {o : HO} (h : SameB b H H') (n : H' p = none) : SameB b H (L2.upd H' p o) := fun a u hn e => by
  have := h a u hn e
  rw [upd_ne (ne_of_none this n)]
  exact this
/-- an object that H does not know may change -/
theorem SameB.mut {b p : Addr} {H H' : Hp} {o : HO} (h : SameB b H H') (n : H p = none) : SameB b H (L2.upd H' p o) := fun a u hn e => by
  rw [upd_ne (ne_of_none e n)]
  exact h a u hn e
theorem SameB.free {b l : Addr} {H H' : Hp} (e : SameB b H H') (hb : l ≠ b) (h : H' l = none) : H l = none := by
  cases q : H l with
  | none => rfl
  | some o =>
    rw [e l o hb q] at h
    cases h
theorem SameB.seq {K : PySem.W.Frag} {b : Addr} {H H' : Hp} {a : Addr} {xs : List V} (e : SameB b H H') (n : a ≠ b) (h : SqL K H a xs) : SqL K H' a xs := by
  rcases h with (h | ⟨o, h⟩) | h
  · exact .inl (.inl (e _ _ n h))
  · exact .inl (.inr ⟨o, e _ _ n h⟩)
  · exact .inr h
/-- an error of the class at C with these fields is what E wants, whatever was made meanwhile -/
def Rais (E : XK) (H : Hp) (C : Addr) (fs : List (Str × V)) : Prop := ∀ H' d, Same H H' → H d = none → H' d = some (.xd fs) → E (.ref C) (some d) H'
theorem Rais.go {E : XK} {H H' : Hp} {C d : Addr} {fs : List (Str × V)} (h : Rais E H C fs) (sm : Same H H') (n : H' d = none) : E (.ref C) (some d) (upd H' d (.xd fs)) :=
  h _ d (sm.trans (same_upd n)) (sm.free n) upd_same
/-- the law's box of draws stands at b, its script at l -/
structure Box (H : Hp) (b l : Addr) : Prop where
  ex : ∃ (ns : List Int) (i c r : Int), H b = some (.lst [.int i, .int c, .int r, .ref l]) ∧ H l = some (.lst (ns.map V.int)) ∧ 0 ≤ i ∧ l ≠ b
theorem Box.keep {H H' : Hp} {b l : Addr} (h : Box H b l) (e : Same H H') : Box H' b l := by
  obtain ⟨ns, i, c, r, h1, h2, h3, h4⟩ := h.ex
  exact ⟨ns, i, c, r, e _ _ h1, e _ _ h2, h3, h4⟩
theorem Box.neb {H : Hp} {b l p : Addr} (h : Box H b l) (n : H p = none) : p ≠ b := fun e => by
  obtain ⟨ns, i, c, r, h1, h2, h3, h4⟩ := h.ex
  rw [e, h1] at n
  cases n
theorem Box.nel {H : Hp} {b l p : Addr} (h : Box H b l) (n : H p = none) : p ≠ l := fun e => by
  obtain ⟨ns, i, c, r, h1, h2, h3, h4⟩ := h.ex
  rw [e, h2] at n
  cases n
theorem Box.mut {H : Hp} {b l p : Addr} {o : HO} (h : Box H b l) (nb : p ≠ b) (nl : p ≠ l) : Box (upd H p o) b l := by
  obtain ⟨ns, i, c, r, h1, h2, h3, h4⟩ := h.ex
  exact ⟨ns, i, c, r, by rw [upd_ne (Ne.symm nb)]; exact h1, by rw [upd_ne (Ne.symm nl)]; exact h2, h3, h4⟩
/-- from H to H' only draws were taken and new objects made -/
structure Bx (b l : Addr) (H H' : Hp) : Prop where
  sm : SameB b H H'
  b0 : Box H b l
  b1 : Box H' b l
theorem Bx.trans {b l : Addr} {H H1 H2 : Hp} (x : Bx b l H H1) (y : Bx b l H1 H2) : Bx b l H H2 := ⟨x.sm.trans y.sm, x.b0, y.b1⟩
theorem Bx.same {b l : Addr} {H H1 H2 : Hp} (x : Bx b l H H1) (y : Same H1 H2) : Bx b l H H2 := ⟨x.sm.trans y.b, x.b0, x.b1.keep y⟩
theorem Bx.new {b l p : Addr} {H H' : Hp} {o : HO} (x : Bx b l H H') (n : H' p = none) : Bx b l H (upd H' p o) := x.same (same_upd n)
theorem Bx.mut {b l p : Addr} {H H' : Hp} {o : HO} (x : Bx b l H H') (n : H p = none) : Bx b l H (upd H' p o) := ⟨x.sm.mut n, x.b0, x.b1.mut (x.b0.neb n) (x.b0.nel n)⟩
theorem Bx.free {b l p : Addr} {H H' : Hp} (x : Bx b l H H') (n : H' p = none) : H p = none := x.sm.free (x.b1.neb n) n
theorem Bx.at {b l a : Addr} {H H' : Hp} {o : HO} (x : Bx b l H H') (h : H a = some o) (n : a ≠ b) : H' a = some o := x.sm a o n h
theorem Bx.seq {K : PySem.W.Frag} {b l : Addr} {H H' : Hp} {a : Addr} {xs : List V} (x : Bx b l H H') (n : a ≠ b) (h : SqL K H a xs) : SqL K H' a xs := x.sm.seq n h
/-- a text of ASCII signs -/
def Asc (z : Str) : Prop := ∀ c ∈ z.cps.toList, c < 128
theorem Asc.ok {z : Str} (h : Asc z) : PyData.strOk z = true := by
  unfold PyData.strOk
  rw [← Array.all_toList, List.all_eq_true]
  intro c hc
  have := h c hc
  exact decide_eq_true (by omega)
theorem Asc.app {x y : Str} (hx : Asc x) (hy : Asc y) : Asc (x ++ y) := by
  intro c hc
  rw [Str.cps_append, Array.toList_append] at hc
  rcases List.mem_append.mp hc with h | h
  · exact hx c h
  · exact hy c h
theorem Asc.one {c : Nat} (h : c < 128) : Asc ⟨#[c]⟩ := by
  intro d hd
  have : d = c := by simpa using hd
  omega
mutual
def nb : PyData → Bool
  | .none => true
  | .int _ => true
  | .str x => PyData.strOk x
  | .list xs => nbAll xs
  | .tuple xs => nbAll xs
  | .bool _ => false
  | .dict _ => false
def nbAll : List PyData → Bool
  | [] => true
  | x :: xs => nb x && nbAll xs
end
mutual
theorem lay_nb : ∀ d : PyData, nb d = true → PyData.canLay0 d = true
  | .none, _ => by simp only [PyData.canLay0]
  | .int _, _ => by simp only [PyData.canLay0]
  | .str x, h => by simp only [nb] at h; simp only [PyData.canLay0, h]
  | .list xs, h => by simp only [nb] at h; simp only [PyData.canLay0]; exact lay_nbAll xs h
  | .tuple xs, h => by simp only [nb] at h; simp only [PyData.canLay0]; exact lay_nbAll xs h
  | .bool _, h => by simp only [nb] at h; cases h
  | .dict _, h => by simp only [nb] at h; cases h
theorem lay_nbAll : ∀ ds : List PyData, nbAll ds = true → PyData.canLayAll0 ds = true
  | [], _ => by simp only [PyData.canLayAll0]
  | x :: xs, h => by
    simp only [nbAll, Bool.and_eq_true] at h
    simp only [PyData.canLayAll0, lay_nb x h.1, lay_nbAll xs h.2, Bool.and_self]
end
mutual
theorem eqv_nb : ∀ d e : PyData, nb d = true → nb e = true → (PyData.eqv d e = true ↔ d = e)
  | .none, e, _, he => by cases e <;> simp [PyData.eqv]
  | .int i, e, _, he => by cases e <;> simp [PyData.eqv, nb] at he ⊢
  | .str x, e, _, he => by cases e <;> simp [PyData.eqv]
  | .list xs, e, hd, he => by
    cases e with
    | list ys =>
      simp only [nb] at hd he
      simp only [PyData.eqv, eqv_nbAll xs ys hd he, PyData.list.injEq]
    | _ => simp [PyData.eqv]
  | .tuple xs, e, hd, he => by
    cases e with
    | tuple ys =>
      simp only [nb] at hd he
      simp only [PyData.eqv, eqv_nbAll xs ys hd he, PyData.tuple.injEq]
    | _ => simp [PyData.eqv]
  | .bool _, _, h, _ => by simp only [nb] at h; cases h
  | .dict _, _, h, _ => by simp only [nb] at h; cases h
theorem eqv_nbAll : ∀ ds es : List PyData, nbAll ds = true → nbAll es = true → (PyData.eqvAll ds es = true ↔ ds = es)
  | [], [], _, _ => by simp [PyData.eqvAll]
  | [], _ :: _, _, _ => by simp [PyData.eqvAll]
  | _ :: _, [], _, _ => by simp [PyData.eqvAll]
  | x :: xs, y :: ys, hd, he => by
    simp only [nbAll, Bool.and_eq_true] at hd he
    simp only [PyData.eqvAll, Bool.and_eq_true, eqv_nb x y hd.1 he.1, eqv_nbAll xs ys hd.2 he.2, List.cons.injEq]
end
theorem depthAll_le {n : Nat} : ∀ {ds : List PyData}, (∀ d ∈ ds, d.depth ≤ n) → PyData.depthAll ds ≤ n
  | [], _ => by simp [PyData.depthAll]
  | d :: ds, h => by
    simp only [PyData.depthAll]
    exact Nat.max_le.mpr ⟨h d (List.mem_cons_self ..), depthAll_le fun x hx => h x (List.mem_cons_of_mem _ hx)⟩
theorem shaped_of {d : PyData} (h : nb d = true) (hd : d.depth ≤ 64) : SeqAt.shaped d = true := by
  unfold SeqAt.shaped
  rw [lay_nb d h, decide_eq_true hd]
  rfl
theorem inV_strs (n : Str) (ws : List Str) : inV (.str n) (ws.map V.str) = decide (n ∈ ws) := by
  unfold inV
  rw [Bool.eq_iff_iff, List.any_eq_true, decide_eq_true_iff]
  constructor
  · rintro ⟨y, hy, e⟩
    obtain ⟨z, hz, rfl⟩ := List.mem_map.mp hy
    have e : z = n := by simpa [eqV] using e
    exact e ▸ hz
  · intro h
    exact ⟨.str n, List.mem_map_of_mem h, by simp [eqV]⟩
theorem flat_strsB (ws : List Str) : (ws.map V.str).all flatV = true := by
  rw [List.all_eq_true]
  intro y hy
  obtain ⟨z, hz, rfl⟩ := List.mem_map.mp hy
  rfl
/-- a list or a tuple -/
def Sq (K : PySem.W.Frag) (H : Hp) (a : Addr) (xs : List V) : Prop := SqL K H a xs ∨ SqT K H a xs
theorem Same.seqT {K : PySem.W.Frag} {H H' : Hp} {a : Addr} {xs : List V} (e : Same H H') (h : SqT K H a xs) : SqT K H' a xs := by
  rcases h with (h | ⟨o, h⟩) | h
  · exact .inl (.inl (e _ _ h))
  · exact .inl (.inr ⟨o, e _ _ h⟩)
  · exact .inr h
theorem Same.sq {K : PySem.W.Frag} {H H' : Hp} {a : Addr} {xs : List V} (e : Same H H') (h : Sq K H a xs) : Sq K H' a xs := h.elim (fun h => .inl (e.seq h)) (fun h => .inr (e.seqT h))
section
variable {K : PySem.W.Frag} {H H' : Hp}
mutual
theorem Dp.keep (e : Same H H') : ∀ (d : PyData) (v : V), Dp K H v d → Dp K H' v d
  | .none, _, h => by cases h; exact .non
  | .bool _, _, h => by cases h; exact .bl _
  | .int _, _, h => by cases h; exact .int _
  | .str _, _, h => by cases h; exact .str _
  | .list ds, _, h => by
    cases h with
    | lst hs ha => exact .lst (e.seq hs) (DpAll.keep e ds _ ha)
  | .tuple ds, _, h => by
    cases h with
    | tup hs ha => exact .tup (e.seqT hs) (DpAll.keep e ds _ ha)
  | .dict _, _, h => by cases h
theorem DpAll.keep (e : Same H H') : ∀ (ds : List PyData) (vs : List V), DpAll K H vs ds → DpAll K H' vs ds
  | [], _, h => by cases h; exact .nil
  | d :: ds, _, h => by
    cases h with
    | cons h1 h2 => exact .cons (Dp.keep e d _ h1) (DpAll.keep e ds _ h2)
end
end
def LETTERS : Str := "abcdefghijklmnopqrstuvwxyz"
def DIGITS : Str := "0123456789"
def okc (c : Nat) : Bool := decide (c ∈ LETTERS.cps.toList) || decide (c ∈ DIGITS.cps.toList)
def wd (l : List Nat) : Bool := decide (1 ≤ l.length ∧ l.length ≤ 12) && (decide (l.headD 0 ∈ LETTERS.cps.toList) && l.all okc)
theorem wd_inv {l : List Nat} (h : wd l = true) : ∃ c r, l = c :: r ∧ c ∈ LETTERS.cps.toList ∧ (∀ d ∈ l, okc d = true) ∧ l.length ≤ 12 := by
  unfold wd at h
  rw [Bool.and_eq_true, Bool.and_eq_true] at h
  obtain ⟨h1, h2, h3⟩ := h
  have h1 := of_decide_eq_true h1
  have h2 := of_decide_eq_true h2
  cases l with
  | nil => exact absurd h1.1 (by decide)
  | cons c r => exact ⟨c, r, rfl, h2, List.all_eq_true.mp h3, h1.2⟩
theorem okc_lt {c : Nat} (h : okc c = true) : c < 128 := by
  unfold okc at h
  rw [Bool.or_eq_true, decide_eq_true_iff, decide_eq_true_iff] at h
  rcases h with h | h
  · exact of_decide_eq_true (List.all_eq_true.mp (show LETTERS.cps.toList.all (fun c => decide (c < 128)) = true by decide) c h)
  · exact of_decide_eq_true (List.all_eq_true.mp (show DIGITS.cps.toList.all (fun c => decide (c < 128)) = true by decide) c h)
/-- a text that is a word -/
def Wd (z : Str) : Prop := wd z.cps.toList = true
theorem Wd.asc {z : Str} (h : Wd z) : Asc z := fun c hc => by
  obtain ⟨_, _, _, _, ho, _⟩ := wd_inv h
  exact okc_lt (ho c hc)
theorem Wd.len {z : Str} (h : Wd z) : z.length ≤ 12 := by
  obtain ⟨_, _, _, _, _, hl⟩ := wd_inv h
  exact hl
section
variable {P : Program} {K : PySem.W.Frag} {h : Heap} {mg : Str → Option Value}
theorem src_mk {x : Str} {st : Stmt} {ps : List Str} {f : Addr} {oc : Value} {od an : Option Addr} {osl : Array (Option Value)} {kV doc pm cdv ct : Value} (X : K.In h) (G : h.Ns mainGlobals mg)
    (a : PySem.W.nsIn K mainGlobals x = some (some (.ref f))) (l : K.lookup f = some ⟨oc, od, .func (PySem.W.fnOf x x (defArgs st) (defBody st) (defScope st) .none kV doc pm an cdv ct), osl⟩)
    (c : PySem.W.codeIn K cdv x = true) (k : PySem.W.keepIn K (.ref f) = true)
    (hb : ∀ (kV doc pm : Value) (an : Option Addr) (cdv ct : Value) (us : List Value), us.length = ps.length → bindArgs (PySem.W.fnOf x x (defArgs st) (defBody st) (defScope st) .none kV doc pm an cdv ct) ⟨us, []⟩ = pure (ps.zip us)) : Src K mg x st ps :=
  ⟨f, _, PySem_Fun_a (fun_mk l c k), PySem.W.mg_of X G a, (fun_mk (st := st) l c k).binds hb⟩
theorem glo_str {x z : Str} {t : Tok} (X : K.In h) (G : h.Ns mainGlobals mg) (a : PySem.W.nsIn K mainGlobals x = some (some (.str z t))) : Glo mg x (.str z) := ⟨_, PySem.W.mg_of X G a, t, rfl⟩
theorem glo_int {x : Str} {i : Int} {t : Tok} (X : K.In h) (G : h.Ns mainGlobals mg) (a : PySem.W.nsIn K mainGlobals x = some (some (.int i t))) : Glo mg x (.int i) := ⟨_, PySem.W.mg_of X G a, t, rfl⟩
theorem glo_ref {x : Str} {a : Addr} (X : K.In h) (G : h.Ns mainGlobals mg) (e : PySem.W.nsIn K mainGlobals x = some (some (.ref a))) : Glo mg x (.ref a) := ⟨_, PySem.W.mg_of X G e, rfl⟩
theorem err_mk {cn qual : Str} {tm : Bool} {C fI : Addr} {fs : List Str} {st : Stmt} {nm q : Str} {N : Addr} {bs bm : List Value} {sn : List Str} {sub : List Value} {ab : Bool} {col : Option Bool} {dd : Option Addr} {m0 m1 m2 m3 m5 : Option Value}
    {oc : Value} {od an : Option Addr} {osl : Array (Option Value)} {kV doc pm ct : Value} {cda cc : Addr} {ccl cl : Value} {cdd cld : Option Addr} {ccs csl : Array (Option Value)} {vs : Array Value} {file : Str} {tf : Tok} {msg : Expr} {p1 p2 p3 p4 p5 : Pos} {fp : List FP} {ar : Arg}
    (X : K.In h) (G : h.Ns mainGlobals mg) (aC : PySem.W.nsIn K mainGlobals cn = some (some (.ref C))) (aS : PySem.W.nsIn K mainGlobals "super" = some none)
    (xL : K.lookup C = some (excClassObj nm q C N bs bm true sn sub ab col dd m0 m1 m2 m3 m5 "ValueError.__new__")) (hbm : PySem.HandSPX.refsVE bm = true)
    (sa : PySem.W.findIn K (.ref C) "__setattr__" = some (some (.builtin "object.__setattr__"))) (ga : PySem.W.findIn K (.ref C) "__getattribute__" = some (some (.builtin "BaseException.__getattribute__"))) (gg : PySem.W.findIn K (.ref C) "__getattr__" = some none)
    (noN : ∀ f ∈ fs, PySem.W.findIn K (.ref C) f = some none)
    (iC : PySem.W.findIn K (.ref C) "__init__" = some (some (.ref fI))) (tI : PySem.W.typeIn K (.ref fI) = some (.type "function")) (kC : PySem.W.keepIn K (.ref C) = true)
    (exC : PySem.W.subIn K (.ref C) (.type "BaseException") = some true) (veC : PySem.W.subIn K (.ref C) (.type "ValueError") = some true) (tyC : PySem.W.typeIn K (.ref C) = some (.type "type")) (hdC : PySem.W.hasDictIn K C = true)
    (sup : PySem.W.ks_superIn K C C "__init__" = some (some (.builtin "ValueError.__init__"))) (mro : PySem.W.mroIn K C (.ref C) = some true) (su : PySem.W.subIn K (.ref C) (.ref C) = some true)
    (ca : PySem.W.findIn K (.ref C) "__class__" = some (some (.builtin "object.__class__"))) (cg : PySem.W.specialIn K (.builtin "object.__class__") "__get__" = some (some (.builtin "getset_descriptor.__get__"))) (ct' : PySem.W.takesIn K (.builtin "object.__class__") = some true)
    (mo : PySem.W.mroIn K C (.type "object") = some true) (opq : PySem.W.nsIn K cStatics "thirdparty.any" = some none)
    (top : (P.main.scope.names.lookup ("super" : Str)).isSome = false)
    (l : K.lookup fI = some ⟨oc, od, .func (PySem.W.ksFn "__init__" qual (defArgs st) (defBody st) (defScope st) .none kV doc pm an (.ref cda) ct cc), osl⟩) (c : PySem.W.codeIn K (.ref cda) qual = true)
    (lc : K.lookup cda = some ⟨ccl, cdd, .fields vs, ccs⟩) (hv2 : vs[2]? = some (.str file tf)) (hfile : ((P.main.file : Str) == file) = true) (lcc : K.lookup cc = some ⟨cl, cld, .cell (some (.ref C)), csl⟩)
    (hbody : defBody st = stS msg p1 p2 p3 p4 p5 :: fp.map stF) (har : ((defArgs st).posonlyargs ++ (defArgs st).args).head? = some ar) (hself : ar.arg = "self") (hfp : fp.map (·.1) = fs) (hpos : (p3.endLine == p4.line) = true)
    (h1 : (defScope st).names.lookup ("super" : Str) = some .globalImplicit) (h2 : (defScope st).names.lookup ("__class__" : Str) = some .free) (h3 : (defScope st).names.lookup ("self" : Str) = some .local) (h4 : ∀ f ∈ fs, (defScope st).names.lookup f = some .local) (h5 : ∀ f ∈ fs, (f == ("__debug__" : Str)) = false) (h6 : ∀ y ∈ (defScope st).names, y.2 ≠ .cell)
    (h7 : (defScope st).kind = .function) (h8 : (defScope st).isGenerator = false) (h9 : (defScope st).isCoroutine = false)
    (hbind : ∀ (kV doc pm : Value) (an : Option Addr) (cda : Addr) (ct : Value) (cc : Addr) (s : Shared) (x : Value) (us : List Value), us.length = fs.length → BindsTo s (PySem.W.ksFn "__init__" qual (defArgs st) (defBody st) (defScope st) .none kV doc pm an (.ref cda) ct cc) ⟨x :: us, []⟩ (("self", x) :: fs.zip us))
    (hlook : ∀ (x : Value) (us : List Value), us.length = fs.length → ((("self" : Str), x) :: fs.zip us).reverse.lookup ("self" : Str) = some x ∧ Paired (fun f u => ((("self" : Str), x) :: fs.zip us).reverse.lookup f = some u) fs us)
    (hmsg : (tm = false ∧ ∃ (z : Str) (i : Nat) (p : Pos), msg = .Constant (.str z) i p) ∨ tm = true ∧ ∃ (z f : Str) (i : Nat) (p p' p'' : Pos), msg = .BinOp (.Constant (.str z) i p) .Add (.Name f p') p'' ∧ z.length ≤ 100 ∧ fs.head? = some f) :
    ErrTxt P K mg tm cn C fI fs where
  cls := ⟨nm, q, N, bs, bm, sn, sub, ab, col, dd, m0, m1, m2, m3, m5, xL, hbm⟩
  sa := sa
  noN := noN
  gC := PySem.W.mg_of X G aC
  ga := ga
  gg := gg
  iC := iC
  tC := tI
  kC := kC
  exC := exC
  veC := veC
  tyC := tyC
  hdC := hdC
  sup := sup
  mro := mro
  sub := su
  ca := ca
  cg := cg
  ct := ct'
  mo := mo
  opq := opq
  msup := PySem.W.mg_none_of X G aS
  top := top
  fn := by
    rw [hbody] at l
    refine ⟨oc, od, qual, defArgs st, defScope st, msg, p1, p2, p3, p4, p5, fp, .none, kV, doc, pm, an, cda, cc, ct, osl, ar, ccl, cl, cdd, cld, ccs, csl, vs, file, tf, l, c, har, hself, lc, hv2, hfile, lcc, hfp, hpos, ⟨h1, h2, h3, h4, h5, h6⟩, ⟨h7, h8, h9⟩, ?_, hlook, hmsg⟩
    intro s x us hl
    have := hbind kV doc pm an cda ct cc s x us hl
    rw [hbody] at this
    exact this
end
end L2
set_option Elab.async false
set_option linter.all false
set_option maxRecDepth 100000
set_option maxHeartbeats 4000000
namespace L2
open PySem PySem.Spec PyProof.Rows PySem.HErr
/-- a method of the text stands in its class -/
structure SrcM (K : PySem.W.Frag) (C : Addr) (m qual : Str) (st : Stmt) (ps : List Str) : Prop where
  ex : ∃ f fd, FunA K m qual st f fd ∧ Meth K C m f ∧ Binds K fd ps []
/-- the method m of the class at C keeps the promise sp -/
structure DefM (P : Program) (w : World) (K : PySem.W.Frag) (mg : Str → Option Value) (base : Heap) (CX : CXT) (k : Nat) (C : Addr) (m : Str) (ps : List Str) (sp : Sp) : Prop where
  ex : ∃ f fd, LkF K f fd ∧ Meth K C m f ∧ Binds K fd ps [] ∧ FnOk P w K mg base CX k f fd ps sp
/-- __init__ of the class at C stands in it; ds: the values of defaults that are left out -/
structure SrcI (K : PySem.W.Frag) (C : Addr) (qual : Str) (st : Stmt) (ps : List Str) : Prop where
  ex : ∃ f fd, FunA K "__init__" qual st f fd ∧ Mk K C f ∧ Binds K fd ps []
structure DefI (P : Program) (w : World) (K : PySem.W.Frag) (mg : Str → Option Value) (base : Heap) (CX : CXT) (k : Nat) (C : Addr) (ps : List Str) (sp : Sp) : Prop where
  ex : ∃ f fd, LkF K f fd ∧ Mk K C f ∧ Binds K fd ps [] ∧ FnOk P w K mg base CX k f fd ps sp
section
variable {P : Program} {w : World} {K : PySem.W.Frag} {mg : Str → Option Value} {base : Heap} {CX : CXT} {m qual : Str} {C : Addr} {st : Stmt} {N ps : List Str} {k : Nat} {sp : Sp}
theorem DefM.mono {j : Nat} (D : DefM P w K mg base CX j C m ps sp) (h : j ≤ k) : DefM P w K mg base CX k C m ps sp := by
  obtain ⟨f, fd, hlk, h1, h2, h3⟩ := D.ex
  exact ⟨f, fd, hlk, h1, h2, h3.mono h⟩
theorem DefI.mono {j : Nat} (D : DefI P w K mg base CX j C ps sp) (h : j ≤ k) : DefI P w K mg base CX k C ps sp := by
  obtain ⟨f, fd, hlk, h1, h2, h3⟩ := D.ex
  exact ⟨f, fd, hlk, h1, h2, h3.mono h⟩
theorem SrcM.ok (F : SrcM K C m qual st ps) (S : FnScope N ps (defScope st)) (len : ∀ vs H Q E, sp vs H Q E → vs.length = ps.length)
    (hbody : ∀ (f : Addr) (cdv : Value) (A : Around) (outer : List Env) (s : Shared) (H : Hp) (vs : List V) (Q : VK) (E : XK), Room k (A.deeper (envOfC qual (defScope st) s.heap.objs.size f cdv)) → sp vs H Q E →
      ∃ t, PSs (cxOf CX0 P w K mg base N qual (defScope st) f cdv A outer s H E).nox (defBody st) t ∧ t { nx := fun _ H' => Q .non H', rt := Q } (start N vs) H) : DefM P w K mg base CX0 (k + 1) C m ps sp := by
  obtain ⟨f, fd, h1, h2, h3⟩ := F.ex
  exact ⟨f, fd, h1.lk, h2, h3, h1.ok S len (hbody f)⟩
theorem SrcM.okX (F : SrcM K C m qual st ps) (S : FnScope N ps (defScope st)) (len : ∀ vs H Q E, sp vs H Q E → vs.length = ps.length)
    (hbody : ∀ (f : Addr) (cdv : Value) (A : Around) (outer : List Env) (s : Shared) (H : Hp) (vs : List V) (Q : VK) (E : XK), Room k (A.deeper (envOfC qual (defScope st) s.heap.objs.size f cdv)) → sp vs H Q E →
      ∃ t, PSs (cxOf (L2.CX P w) P w K mg base N qual (defScope st) f cdv A outer s H E) (defBody st) t ∧ t { nx := fun _ H' => Q .non H', rt := Q } (start N vs) H) : DefM P w K mg base (L2.CX P w) (k + 1) C m ps sp := by
  obtain ⟨f, fd, h1, h2, h3⟩ := F.ex
  exact ⟨f, fd, h1.lk, h2, h3, h1.okX S len (hbody f)⟩
theorem SrcI.okX (F : SrcI K C qual st ps) (S : FnScope N ps (defScope st)) (len : ∀ vs H Q E, sp vs H Q E → vs.length = ps.length)
    (hbody : ∀ (f : Addr) (cdv : Value) (A : Around) (outer : List Env) (s : Shared) (H : Hp) (vs : List V) (Q : VK) (E : XK), Room k (A.deeper (envOfC qual (defScope st) s.heap.objs.size f cdv)) → sp vs H Q E →
      ∃ t, PSs (cxOf (L2.CX P w) P w K mg base N qual (defScope st) f cdv A outer s H E) (defBody st) t ∧ t { nx := fun _ H' => Q .non H', rt := Q } (start N vs) H) : DefI P w K mg base (L2.CX P w) (k + 1) C ps sp := by
  obtain ⟨f, fd, h1, h2, h3⟩ := F.ex
  exact ⟨f, fd, h1.lk, h2, h3, h1.okX S len (hbody f)⟩
theorem SrcI.ok (F : SrcI K C qual st ps) (S : FnScope N ps (defScope st)) (len : ∀ vs H Q E, sp vs H Q E → vs.length = ps.length)
    (hbody : ∀ (f : Addr) (cdv : Value) (A : Around) (outer : List Env) (s : Shared) (H : Hp) (vs : List V) (Q : VK) (E : XK), Room k (A.deeper (envOfC qual (defScope st) s.heap.objs.size f cdv)) → sp vs H Q E →
      ∃ t, PSs (cxOf CX0 P w K mg base N qual (defScope st) f cdv A outer s H E).nox (defBody st) t ∧ t { nx := fun _ H' => Q .non H', rt := Q } (start N vs) H) : DefI P w K mg base CX0 (k + 1) C ps sp := by
  obtain ⟨f, fd, h1, h2, h3⟩ := F.ex
  exact ⟨f, fd, h1.lk, h2, h3, h1.ok S len (hbody f)⟩
end
theorem passAt0 {X : Cx} (σ : St) : PassesAt CX0 X σ E0 := fun _ _ _ _ _ _ h => h.elim
theorem Passes.at {CX : CXT} {X : Cx} {E : XK} (h : Passes CX X E) (σ : St) : PassesAt CX X σ E := fun pins H s e s' I c => h pins σ H s e s' I c
/-- o.m(..) -/
def tMetD (C : Addr) (m : Str) (sp : Sp) (E : St → XK) (ta : TE) (t : TA) : TE := fun σ H Q => ta σ H fun x H1 => ∃ a dx fs, x = .ref a ∧ H1 a = some (.ins C dx fs) ∧ fs.lookup m = none ∧ t σ H1 fun vs H2 => sp (x :: vs) H2 Q (E σ)
/-- C(..) -/
def tMkD (C : Addr) (sp : Sp) (E : St → XK) (t : TA) : TE := fun σ H Q => t σ H fun vs H1 => ∀ x dx, H1 x = none → H1 dx = none → dx ≠ x →
  sp (.ref x :: vs) (upd (upd H1 dx (.own x)) x (.ins C dx [])) (fun v H2 => v = .non ∧ Q (.ref x) H2) (E σ)
section
variable {X : Cx} {CX : CXT} {k : Nat} {C : Addr} {ps : List Str} {sp : Sp} {E : St → XK} {x m : Str} {p pos apos : Pos} {e o : Expr} {es : List Expr} {ta : TE} {t : TA}
theorem pe_mkD (D : DefI X.prog X.w X.K X.mg X.base CX k C ps sp) (hm : X.mg x = some (.ref C)) (hr : Room (k + 1) X.A) (hx : ∀ σ, PassesAt CX X σ (E σ)) (ha : PA X (e :: es) t) (hg : Gl X x := by rfl)
    (hdb : (x == ("__debug__" : Str)) = false := by decide) (he : starEach (e :: es) X.env = (false, eval e X.env) :: starEach es X.env := by rfl) (hpl : (backTo pos (starEach es X.env)).any (·.1) = false := by rfl) :
    PE X (.Call (.Name x p) (e :: es) [] pos) (tMkD C sp E t) := by
  obtain ⟨f, fd, hlk, M, hb, F⟩ := D.ex
  refine ⟨fun pins s0 σ H0 Q I0 h0 => ?_⟩
  refine wpAny_Call_Name_kw (ld_glob I0 hg hm ?_ hdb)
  refine PySem.W.callWith_K (h₀ := X.base) I0.ok.mod.kin M.kp (thn (ha.run pos pins s0 σ H0 _ I0 h0) fun us s ⟨vs, H, I, r, h⟩ => ⟨I.kIn, ?_⟩) he hpl
  show wpAny _ _ (call (.ref C) us) _ _ _
  have hq := h (s.heap.objs.size + 1) s.heap.objs.size (I.hok.fresh (Nat.le_succ _)) (I.hok.fresh (Nat.le_refl _)) (Nat.ne_of_lt (Nat.lt_succ_self _))
  have I2 := Inv.made (C := C) I
  have r2 : Vals (V.ref (s.heap.objs.size + 1) :: vs) (Value.ref (s.heap.objs.size + 1) :: us) := .cons rfl r
  have hl : ((Value.ref (s.heap.objs.size + 1) :: us) ++ []).length = ps.length := by
    have e := r2.length
    rw [F.len _ _ _ _ hq] at e
    rw [List.append_nil]
    exact e.symm
  have hbb := hb _ (Value.ref (s.heap.objs.size + 1) :: us) I2.kIn hl
  rw [List.append_nil] at hbb
  refine wpAny_call (make_map (f := f) I.kIn M.makes M.init (beq_iff_eq.mp M.fn) (codeAny_mono (F.run _ X.stack _ _ ⟨Value.ref (s.heap.objs.size + 1) :: us, []⟩ (Value.ref (s.heap.objs.size + 1) :: us) _ _ (E σ) (hr.make C us [])
    (I2.env0.make C us []) hbb r2 hq) fun r s' hq' => ?_))
  cases r with
  | error e => exact hx σ pins _ _ e s' I2 hq'
  | ok fl =>
    cases fl with
    | ret u =>
      obtain ⟨v, H', I3, rv, ev, q3⟩ := I2.after hq'
      subst ev
      exact ⟨rv, ⟨V.ref (s.heap.objs.size + 1), H', I3, rfl, q3⟩⟩
    | next => exact False.elim hq'
    | brk => exact False.elim hq'
    | cont => exact False.elim hq'
theorem kps_fld {K : PySem.W.Frag} {f : Str} {value : Expr} {pos' : Pos} {tv : TE} (ha : PE X o ta) (hv : PE X value tv) (hs : swapsWith value (some (.Attribute o f pos')) pos.line X.env = pure false := by rfl) (hK : X.K = K := by rfl) :
    PS X (.Assign [.Attribute o f pos'] value pos) (sFld K ta tv f) := hK ▸ ps_fld ha hv hs
theorem srcM_mk {K : PySem.W.Frag} {qual : Str} {st : Stmt} {f : Addr} {oc : Value} {od an : Option Addr} {osl : Array (Option Value)} {kV doc pm cdv ct : Value}
    (a : PySem.W.findIn K (.ref C) m = some (some (.ref f))) (i : PySem.W.isFn K (.ref f) = true) (l : K.lookup f = some ⟨oc, od, .func (PySem.W.fnOf m qual (defArgs st) (defBody st) (defScope st) .none kV doc pm an cdv ct), osl⟩)
    (c : PySem.W.codeIn K cdv qual = true) (k : PySem.W.keepIn K (.ref f) = true)
    (hb : ∀ (kV doc pm : Value) (an : Option Addr) (cdv ct : Value) (us : List Value), us.length = ps.length → bindArgs (PySem.W.fnOf m qual (defArgs st) (defBody st) (defScope st) .none kV doc pm an cdv ct) ⟨us, []⟩ = pure (ps.zip us)) : SrcM K C m qual st ps :=
  ⟨f, _, PySem_Fun_a (fun_mk l c k), ⟨a, i, k⟩, (fun_mk (st := st) l c k).binds hb⟩
end
end L2
set_option Elab.async false
set_option linter.all false
set_option maxRecDepth 100000
set_option maxHeartbeats 4000000
namespace L2
open PySem PySem.Spec PyProof.Rows PySem.HErr
/-- an error of a plan -/
inductive PErr where
  | tooMany (kind : Str) (limit : Int)
  | badWord (w : Str)
  | double (n : Str)
  | badNumber (n : Int)
  | empty (n : Str)
  | unknown (n : Str)
abbrev SRow := Str × List Str × List Str
/-- names in the order of the places -/
def inOrd (places ns : List Str) : List Str := places.filter fun p => decide (p ∈ ns)
/-- a plan -/
structure PlanD where
  places : List Str
  begin : List Int
  steps : List SRow
def PlanD.names (d : PlanD) : List Str := d.steps.map (·.1)
/-- a dict from words to tuples of words -/
def TabAt (H : Hp) (kvs : List (Key × V)) (rows : List (Str × List Str)) : Prop := Paired (fun (kv : Key × V) r => kv.1 = Sum.inr r.1 ∧ ∃ t, kv.2 = .ref t ∧ H t = some (.tup (r.2.map V.str))) kvs rows
/-- a tuple whose place is known to be bare -/
def TupK (F : Hp) (a : Addr) (vs : List V) : Prop := ∃ o, F a = some (.frz o (.tup vs)) ∧ o.cls = .type "tuple" ∧ o.dict = none
theorem TupK.mono {F F' : Hp} {a : Addr} {vs : List V} (e : Same F F') (h : TupK F a vs) : TupK F' a vs := let ⟨o, h, q⟩ := h; ⟨o, e _ _ h, q⟩
def TupX (n : Bool) (F : Hp) (a : Addr) (vs : List V) : Prop := (n = true ∧ F a = some (.tup vs)) ∨ (n = false ∧ TupK F a vs)
theorem TupX.mono {n : Bool} {F F' : Hp} {a : Addr} {vs : List V} (e : Same F F') (h : TupX n F a vs) : TupX n F' a vs := h.imp (fun ⟨h0, h⟩ => ⟨h0, e _ _ h⟩) fun ⟨h0, h⟩ => ⟨h0, h.mono e⟩
def TupB (n : Bool) (F : Hp) (a : Addr) (vs : List V) : Prop := F a = some (.tup vs) ∨ (n = false ∧ TupK F a vs)
theorem TupB.mono {n : Bool} {F F' : Hp} {a : Addr} {vs : List V} (e : Same F F') (h : TupB n F a vs) : TupB n F' a vs := h.imp (fun h => e _ _ h) fun ⟨h0, o, h, q⟩ => ⟨h0, o, e _ _ h, q⟩
/-- the plan d stands at x -/
structure PlanAt (H : Hp) (C x : Addr) (d : PlanD) : Prop where
  ex : ∃ (dx tp tb td tg ts : Addr) (kt kg : List (Key × V)), H x = some (.ins C dx [("places", .ref tp), ("begin", .ref tb), ("taken", .ref td), ("given", .ref tg), ("steps", .ref ts)]) ∧
    TupX d.places.isEmpty H tp (d.places.map V.str) ∧ H tb = some (.tup (d.begin.map V.int)) ∧ H td = some (.dK kt) ∧ H tg = some (.dK kg) ∧ TupB d.names.isEmpty H ts (d.names.map V.str) ∧
    TabAt H kt (d.steps.map fun s => (s.1, s.2.1)) ∧ TabAt H kg (d.steps.map fun s => (s.1, s.2.2))
theorem Paired.imp2 {α β : Type} {R S : α → β → Prop} (h : ∀ a b, R a b → S a b) : ∀ {l : List α} {m : List β}, Paired R l m → Paired S l m
  | _, _, .nil => .nil
  | _, _, .cons x y => .cons (h _ _ x) (Paired.imp2 h y)
theorem TabAt.keep {H H' : Hp} {kvs : List (Key × V)} {rows : List (Str × List Str)} (h : TabAt H kvs rows) (e : ∀ t l, H t = some (.tup l) → H' t = some (.tup l)) : TabAt H' kvs rows :=
  Paired.imp2 (fun _ _ ⟨h1, t, h2, h3⟩ => ⟨h1, t, h2, e t _ h3⟩) h
theorem PlanAt.keep {H H' : Hp} {C x : Addr} {d : PlanD} (h : PlanAt H C x d) (e : Same H H') : PlanAt H' C x d := by
  obtain ⟨dx, tp, tb, td, tg, ts, kt, kg, h1, h2, h3, h4, h5, h6, h7, h8⟩ := h.ex
  exact ⟨dx, tp, tb, td, tg, ts, kt, kg, e _ _ h1, h2.mono e, e _ _ h3, e _ _ h4, e _ _ h5, h6.mono e, h7.keep fun _ _ => e _ _, h8.keep fun _ _ => e _ _⟩
/-- rows of places, rows of steps, in the heap -/
def PRows (H : Hp) (a : Addr) (prs : List (Str × Int)) : Prop := ∃ ts : List Addr, H a = some (.lst (ts.map V.ref)) ∧ Paired (fun t (r : Str × Int) => H t = some (.tup [.str r.1, .int r.2])) ts prs
/-- a row of a step at t, its lists other than the one at a -/
def SRowIn (H : Hp) (a t : Addr) (r : SRow) : Prop := ∃ b c, H t = some (.tup [.str r.1, .ref b, .ref c]) ∧ H b = some (.lst (r.2.1.map V.str)) ∧ H c = some (.lst (r.2.2.map V.str)) ∧ b ≠ a ∧ c ≠ a
def SRows (H : Hp) (a : Addr) (srs : List SRow) : Prop := ∃ ts : List Addr, H a = some (.lst (ts.map V.ref)) ∧ Paired (SRowIn H a) ts srs
theorem PRows.keep {H H' : Hp} {a : Addr} {prs : List (Str × Int)} (h : PRows H a prs) (e : Same H H') : PRows H' a prs := by
  obtain ⟨ts, h1, h2⟩ := h
  exact ⟨ts, e _ _ h1, Paired.imp2 (fun _ _ h => e _ _ h) h2⟩
theorem SRows.keep {H H' : Hp} {a : Addr} {srs : List SRow} (h : SRows H a srs) (e : Same H H') : SRows H' a srs := by
  obtain ⟨ts, h1, h2⟩ := h
  exact ⟨ts, e _ _ h1, Paired.imp2 (fun _ _ ⟨b, c, x, y, z, u⟩ => ⟨b, c, e _ _ x, e _ _ y, e _ _ z, u⟩) h2⟩
theorem Paired.get {α β : Type} {R : α → β → Prop} : ∀ {l : List α} {m : List β} {i : Nat} {a : α}, Paired R l m → l[i]? = some a → ∃ b, m[i]? = some b ∧ R a b
  | _, _, _, _, .nil, h => by simp at h
  | _, _, 0, _, .cons x _, h => by cases h; exact ⟨_, rfl, x⟩
  | _, _, i + 1, _, .cons _ y, h => Paired.get (i := i) y h
theorem Paired.len {α β : Type} {R : α → β → Prop} : ∀ {l : List α} {m : List β}, Paired R l m → l.length = m.length
  | _, _, .nil => rfl
  | _, _, .cons _ y => by rw [List.length_cons, List.length_cons, Paired.len y]
theorem Paired.snoc {α β : Type} {R : α → β → Prop} {a : α} {b : β} (h : R a b) : ∀ {l : List α} {m : List β}, Paired R l m → Paired R (l ++ [a]) (m ++ [b])
  | _, _, .nil => .cons h .nil
  | _, _, .cons x y => .cons x (Paired.snoc h y)
/-- the classes of the errors of a plan -/
structure ECs where
  tooMany : Addr
  badWord : Addr
  double : Addr
  badNumber : Addr
  empty : Addr
  unknown : Addr
def PErr.cls (cs : ECs) : PErr → Addr
  | .tooMany _ _ => cs.tooMany
  | .badWord _ => cs.badWord
  | .double _ => cs.double
  | .badNumber _ => cs.badNumber
  | .empty _ => cs.empty
  | .unknown _ => cs.unknown
def PErr.fields : PErr → List (Str × V)
  | .tooMany k l => [("limit", .int l), ("kind", .str k)]
  | .badWord w => [("word", .str w)]
  | .double n => [("name", .str n)]
  | .badNumber n => [("number", .int n)]
  | .empty n => [("name", .str n)]
  | .unknown n => [("name", .str n)]
/-- the same, but the object at x may have changed -/
def RaisX (cs : ECs) (E : XK) (x : Addr) (H : Hp) (e : PErr) : Prop := ∀ H' d, SameB x H H' → H d = none → H' d = some (.xd e.fields) → E (.ref (e.cls cs)) (some d) H'
theorem RaisX.go {cs : ECs} {E : XK} {x d : Addr} {H H' : Hp} {e : PErr} (h : RaisX cs E x H e) (sm : SameB x H H') (n : H' d = none) (hx : ∃ o, H' x = some o) : E (.ref (e.cls cs)) (some d) (upd H' d (.xd e.fields)) := by
  have hd : d ≠ x := fun q => by
    obtain ⟨o, ho⟩ := hx
    rw [q, ho] at n
    cases n
  exact h _ d (fun a o ha e => by rw [upd_ne (ne_of_none (sm a o ha e) n)]; exact sm a o ha e) (sm.free hd n) upd_same
theorem tup_ne {b l : Addr} {H : Hp} {a : Addr} {xs : List V} (hb : Box H b l) (h : H a = some (.tup xs)) : a ≠ b := fun q => by
  obtain ⟨ns, i, c, r, hb, _⟩ := hb.ex
  rw [q, hb] at h
  cases h
end L2
set_option Elab.async false
set_option linter.all false
set_option maxRecDepth 100000
set_option maxHeartbeats 4000000
namespace L2
open PySem PySem.Spec PyProof.Rows PySem.HErr
theorem Same.mut {p : Addr} {H H' : Hp} {o : HO} (h : Same H H') (n : H p = none) : Same H (upd H' p o) := fun a u e => by
  rw [upd_ne (ne_of_none e n)]
  exact h a u e
theorem Bx.tup {b l : Addr} {H H' : Hp} {a : Addr} {xs : List V} (x : Bx b l H H') (h : H a = some (.tup xs)) : H' a = some (.tup xs) := x.at h (tup_ne x.b0 h)
theorem Paired.take {α β : Type} {R : α → β → Prop} : ∀ {l : List α} {m : List β} (i : Nat), Paired R l m → Paired R (l.take i) (m.take i)
  | _, _, 0, _ => .nil
  | _, _, _ + 1, .nil => .nil
  | _, _, i + 1, .cons x y => .cons x (Paired.take i y)
theorem Paired.drop {α β : Type} {R : α → β → Prop} : ∀ {l : List α} {m : List β} (i : Nat), Paired R l m → Paired R (l.drop i) (m.drop i)
  | _, _, 0, h => h
  | _, _, _ + 1, .nil => .nil
  | _, _, i + 1, .cons _ y => Paired.drop i y
theorem Paired.app {α β : Type} {R : α → β → Prop} : ∀ {l : List α} {m : List β} {l' : List α} {m' : List β}, Paired R l m → Paired R l' m' → Paired R (l ++ l') (m ++ m')
  | _, _, _, _, .nil, h => h
  | _, _, _, _, .cons x y, h => .cons x (Paired.app y h)
theorem Paired.get' {α β : Type} {R : α → β → Prop} : ∀ {l : List α} {m : List β} {i : Nat} {b : β}, Paired R l m → m[i]? = some b → ∃ a, l[i]? = some a ∧ R a b
  | _, _, _, _, .nil, h => by simp at h
  | _, _, 0, _, .cons x _, h => by cases h; exact ⟨_, rfl, x⟩
  | _, _, i + 1, _, .cons _ y, h => Paired.get' (i := i) y h
theorem drop_at {α : Type} {l : List α} {i : Nat} {n : α} (h : l[i]? = some n) : l.drop i = n :: l.drop (i + 1) := List.drop_eq_getElem?_toList_append.trans (by rw [h]; rfl)
theorem SRowIn.keep {H H' : Hp} {a t : Addr} {r : SRow} (h : SRowIn H a t r) (e : Same H H') : SRowIn H' a t r := by
  obtain ⟨b, c, x, y, z, u⟩ := h
  exact ⟨b, c, e _ _ x, e _ _ y, e _ _ z, u⟩
theorem Paired.same {H H' : Hp} {ts : List Addr} {prs : List (Str × Int)} (h : Paired (fun t (r : Str × Int) => H t = some (.tup [.str r.1, .int r.2])) ts prs) (e : Same H H') : Paired (fun t (r : Str × Int) => H' t = some (.tup [.str r.1, .int r.2])) ts prs := Paired.imp2 (fun _ _ h => e _ _ h) h
end L2
set_option Elab.async false
set_option linter.all false
set_option maxRecDepth 100000
set_option maxHeartbeats 4000000
namespace L2
open PySem PySem.Spec PyProof.Rows PySem.HErr
end L2
set_option Elab.async false
set_option linter.all false
set_option maxRecDepth 100000
set_option maxHeartbeats 4000000
namespace L2
open PySem PySem.Spec PyProof.Rows PySem.HErr
/-- what a value is, in the frozen heap -/
structure Vp where
  p : Hp → V → Prop
  mono : ∀ {F F' : Hp} {v : V}, Same F F' → p F v → p F' v
/-- how a thing of Lean stands for a value -/
structure Rep (α : Type) where
  p : Hp → V → α → Prop
  mono : ∀ {F F' : Hp} {v : V} {x : α}, Same F F' → p F v x → p F' v x
def iz {α : Type} (r : Rep α) (x : α) : Vp := ⟨fun F v => r.p F v x, fun e h => r.mono e h⟩
def zAt (a : Addr) : Vp := ⟨fun _ v => v = .ref a, fun _ h => h⟩
def zNon : Vp := ⟨fun _ v => v = .non, fun _ h => h⟩
def zI : Rep Int := ⟨fun _ v x => v = .int x, fun _ h => h⟩
def zB : Rep Bool := ⟨fun _ v x => v = .bl x, fun _ h => h⟩
def zS : Rep Str := ⟨fun _ v x => v = .str x ∧ Asc x, fun _ h => h⟩
abbrev PVs {α : Type} (r : Rep α) (F : Hp) (vs : List V) (xs : List α) : Prop := Paired (fun v x => r.p F v x) vs xs
def zL {α : Type} (r : Rep α) : Rep (List α) := ⟨fun F v xs => ∃ a vs, v = .ref a ∧ F a = some (.lst vs) ∧ PVs r F vs xs, fun e ⟨a, vs, h1, h2, h3⟩ => ⟨a, vs, h1, e _ _ h2, Paired.imp2 (fun _ _ h => r.mono e h) h3⟩⟩
def isSD : PyData → Bool
  | .str _ => true
  | _ => false
def isSDs (ds : List PyData) : Bool := !ds.isEmpty && ds.all isSD
/-- which tuples stand at a place that holds nothing but the tuple (such may be keys of dicts); the place of another one may be known to be bare -/
class TNar (α : Type) where
  nar : List α → Bool
/-- all of them do -/
class TAll (α : Type) [TNar α] : Prop where
  all : ∀ xs : List α, TNar.nar xs = true
instance : TNar Int := ⟨fun _ => true⟩
instance : TAll Int := ⟨fun _ => rfl⟩
instance : TNar Str := ⟨fun xs => xs.isEmpty⟩
instance : TNar PyData := ⟨fun ds => !isSDs ds⟩
instance : TNar Bool := ⟨fun _ => true⟩
instance : TAll Bool := ⟨fun _ => rfl⟩
instance : TNar Unit := ⟨fun _ => true⟩
instance : TAll Unit := ⟨fun _ => rfl⟩
instance {α β : Type} : TNar (α × β) := ⟨fun _ => true⟩
instance {α β : Type} : TAll (α × β) := ⟨fun _ => rfl⟩
instance {α : Type} : TNar (List α) := ⟨fun _ => true⟩
instance {α : Type} : TAll (List α) := ⟨fun _ => rfl⟩
instance {α : Type} : TNar (Option α) := ⟨fun _ => true⟩
instance {α : Type} : TAll (Option α) := ⟨fun _ => rfl⟩
instance {α β : Type} : TNar (α ⊕ β) := ⟨fun _ => true⟩
instance {α β : Type} : TAll (α ⊕ β) := ⟨fun _ => rfl⟩
theorem TupX.tb {n : Bool} {F : Hp} {a : Addr} {vs : List V} (h : TupX n F a vs) : TupB n F a vs := h.imp (fun h => h.2) id
theorem TupB.rd {n : Bool} {F : Hp} {a : Addr} {vs : List V} (h : TupB n F a vs) : Rd F a (.tup vs) := h.elim .inl fun ⟨_, o, h, _⟩ => .inr ⟨o, h⟩
theorem TupB.nar {n : Bool} {F : Hp} {a : Addr} {vs : List V} (h : TupB n F a vs) (e : n = true) : F a = some (.tup vs) := h.elim id fun ⟨h0, _⟩ => by rw [e] at h0; cases h0
theorem TupB.sq {n : Bool} {K : PySem.W.Frag} {F H : Hp} {a : Addr} {vs : List V} (h : TupB n F a vs) (e : Same F H) : SqT K H a vs := .inl (h.mono e).rd
def zT {α : Type} [k : TNar α] (r : Rep α) : Rep (List α) := ⟨fun F v xs => ∃ a vs, v = .ref a ∧ TupB (k.nar xs) F a vs ∧ PVs r F vs xs, fun e ⟨a, vs, h1, h2, h3⟩ => ⟨a, vs, h1, h2.mono e, Paired.imp2 (fun _ _ h => r.mono e h) h3⟩⟩
def z2 {α β : Type} (r : Rep α) (s : Rep β) : Rep (α × β) := ⟨fun F v x => ∃ a u w, v = .ref a ∧ F a = some (.tup [u, w]) ∧ r.p F u x.1 ∧ s.p F w x.2, fun e ⟨a, u, w, h1, h2, h3, h4⟩ => ⟨a, u, w, h1, e _ _ h2, r.mono e h3, s.mono e h4⟩⟩
def z3 {α β γ : Type} (r : Rep α) (s : Rep β) (t : Rep γ) : Rep (α × β × γ) := ⟨fun F v x => ∃ a u w z, v = .ref a ∧ F a = some (.tup [u, w, z]) ∧ r.p F u x.1 ∧ s.p F w x.2.1 ∧ t.p F z x.2.2, fun e ⟨a, u, w, z, h1, h2, h3, h4, h5⟩ => ⟨a, u, w, z, h1, e _ _ h2, r.mono e h3, s.mono e h4, t.mono e h5⟩⟩
structure Cel where
  a : Addr
  own : Bool
  φ : Hp → HO → Prop
  mono : ∀ {F F' : Hp} {o : HO}, Same F F' → φ F o → φ F' o
  nt : ∀ {F : Hp} {o : HO} {vs : List V}, φ F o → o = .tup vs → False
/-- what F' may know beyond F: what is new, and tuples -/
def Nwr (F H : Hp) (a : Addr) (o : HO) : Prop := (∃ o', F a = some o') ∨ H a = none ∨ ∃ vs, o = .tup vs
def cL {α : Type} (a : Addr) (r : Rep α) (xs : List α) : Cel := ⟨a, true, fun F o => ∃ vs, o = .lst vs ∧ PVs r F vs xs, fun e ⟨vs, h1, h2⟩ => ⟨vs, h1, Paired.imp2 (fun _ _ h => r.mono e h) h2⟩, fun h e => by subst e; simp at h⟩
/-- the law's box at b, its script at l -/
def cBox (own : Bool) (b l : Addr) : Cel := ⟨b, own, fun F o => ∃ (ns : List Int) (i c r : Int), o = .lst [.int i, .int c, .int r, .ref l] ∧ F l = some (.lst (ns.map V.int)) ∧ 0 ≤ i, fun e ⟨ns, i, c, r, h1, h2, h3⟩ => ⟨ns, i, c, r, h1, e _ _ h2, h3⟩, fun h e => by subst e; simp at h⟩
/-- what stood at the beginning: F0 frozen, H0 all, B lent -/
structure Fr where
  F0 : Hp
  H0 : Hp
  B : List Addr
structure OkF (fr : Fr) (Θ : List Cel) (F H : Hp) : Prop where
  fh : Same F H
  f0 : Same fr.F0 F
  nw : ∀ a o, F a = some o → Nwr fr.F0 fr.H0 a o
  h0 : ∀ a o, a ∉ fr.B → fr.H0 a = some o → H a = some o
  al : ∀ a o, fr.H0 a = some o → ∃ o', H a = some o'
  nd : (Θ.map Cel.a).Nodup
  ce : ∀ c ∈ Θ, F c.a = none ∧ (∃ o, H c.a = some o ∧ c.φ F o) ∧ (if c.own = true then fr.H0 c.a = none else c.a ∈ fr.B)
section
variable {fr : Fr} {Θ : List Cel} {F F' H H' : Hp}
theorem OkF.h0n (k : OkF fr Θ F H) {p : Addr} (n : H p = none) : fr.H0 p = none := by
  cases q : fr.H0 p with
  | none => rfl
  | some o =>
    obtain ⟨o', h⟩ := k.al p o q
    rw [n] at h
    cases h
theorem OkF.new {p : Addr} {o : HO} (k : OkF fr Θ F H) (n : H p = none) : OkF fr Θ (upd F p o) (upd H p o) := by
  have nF : F p = none := k.fh.free n
  refine ⟨fun a u h => ?_, k.f0.trans (same_upd nF), fun a u h => ?_, fun a u hB h => ?_, fun a u h => ?_, k.nd, fun c hc => ?_⟩
  · by_cases e : a = p
    · subst e
      rw [upd_same] at h ⊢
      exact h
    · rw [upd_ne e] at h ⊢
      exact k.fh a u h
  · by_cases e : a = p
    · subst e
      exact .inr (.inl (k.h0n n))
    · rw [upd_ne e] at h
      exact k.nw a u h
  · have := k.h0 a u hB h
    rw [upd_ne (ne_of_none this n)]
    exact this
  · obtain ⟨o', h'⟩ := k.al a u h
    exact ⟨o', by rw [upd_ne (ne_of_none h' n)]; exact h'⟩
  · obtain ⟨h1, ⟨u, h2, h3⟩, h4⟩ := k.ce c hc
    have ne := ne_of_none h2 n
    exact ⟨by rw [upd_ne ne]; exact h1, ⟨u, by rw [upd_ne ne]; exact h2, c.mono (same_upd nF) h3⟩, h4⟩
theorem OkF.sameF {p : Addr} {o : HO} (k : OkF fr Θ F H) (n : H p = none) : Same F (upd F p o) := same_upd (k.fh.free n)
theorem OkF.mkOwn {c : Cel} {o : HO} (k : OkF fr Θ F H) (n : H c.a = none) (ho : c.own = true) (h : c.φ F o) : OkF fr (c :: Θ) F (upd H c.a o) := by
  refine ⟨k.fh.trans (same_upd n), k.f0, k.nw, fun a u hB h => ?_, fun a u h => ?_, ?_, fun d hd => ?_⟩
  · have := k.h0 a u hB h
    rw [upd_ne (ne_of_none this n)]
    exact this
  · obtain ⟨o', h'⟩ := k.al a u h
    exact ⟨o', by rw [upd_ne (ne_of_none h' n)]; exact h'⟩
  · rw [List.map_cons, List.nodup_cons]
    refine ⟨fun hm => ?_, k.nd⟩
    obtain ⟨d, hd, e⟩ := List.mem_map.mp hm
    obtain ⟨_, ⟨u, h2, _⟩, _⟩ := k.ce d hd
    rw [e, n] at h2
    cases h2
  · rcases List.mem_cons.mp hd with rfl | hd
    · exact ⟨k.fh.free n, ⟨o, upd_same, h⟩, by rw [if_pos ho]; exact k.h0n n⟩
    · obtain ⟨h1, ⟨u, h2, h3⟩, h4⟩ := k.ce d hd
      exact ⟨h1, ⟨u, by rw [upd_ne (ne_of_none h2 n)]; exact h2, h3⟩, h4⟩
theorem nodup_at {l : List Cel} (h : (l.map Cel.a).Nodup) {i : Nat} {c d : Cel} (hi : l[i]? = some c) {j : Nat} (hj : l[j]? = some d) (e : d.a = c.a) : i = j := by
  have hi' : (l.map Cel.a)[i]? = some c.a := by rw [List.getElem?_map, hi]; rfl
  have hj' : (l.map Cel.a)[j]? = some c.a := by rw [List.getElem?_map, hj, ← e]; rfl
  exact (List.getElem?_inj (List.getElem?_eq_some_iff.mp hi').1 h).mp (hi'.trans hj'.symm)
/-- a cell's content changes -/
theorem OkF.mut {i : Nat} {c c' : Cel} {o : HO} (k : OkF fr Θ F H) (hi : Θ[i]? = some c) (ha : c'.a = c.a) (ho : c'.own = c.own) (h : c'.φ F o) : OkF fr (Θ.set i c') F (upd H c.a o) := by
  have hm := List.mem_of_getElem? hi
  obtain ⟨h1, ⟨u0, h2, h3⟩, h4⟩ := k.ce c hm
  refine ⟨fun a u h => ?_, k.f0, k.nw, fun a u hB h => ?_, fun a u h => ?_, ?_, fun d hd => ?_⟩
  · have ne : a ≠ c.a := fun e => by rw [e, h1] at h; cases h
    rw [upd_ne ne]
    exact k.fh a u h
  · have ne : a ≠ c.a := fun e => by
      cases q : c.own with
      | true =>
        rw [if_pos q] at h4
        rw [e, h4] at h
        cases h
      | false =>
        rw [if_neg (by rw [q]; exact Bool.false_ne_true)] at h4
        rw [e] at hB
        exact hB h4
    rw [upd_ne ne]
    exact k.h0 a u hB h
  · by_cases e : a = c.a
    · exact ⟨o, by rw [e]; exact upd_same⟩
    · rw [upd_ne e]
      exact k.al a u h
  · have : (Θ.set i c').map Cel.a = Θ.map Cel.a := by
      rw [List.map_set, ha]
      apply List.ext_getElem?
      intro j
      rw [List.getElem?_set]
      split
      · rename_i e
        subst e
        rw [List.getElem?_map, hi]
        have hlt : i < (Θ.map Cel.a).length := by
          rw [List.length_map]
          exact (List.getElem?_eq_some_iff.mp hi).1
        rw [if_pos hlt]
        rfl
      · rfl
    rw [this]
    exact k.nd
  · obtain ⟨j, hj⟩ := List.getElem?_of_mem hd
    rw [List.getElem?_set] at hj
    split at hj
    · rename_i e
      split at hj
      · cases hj
        rw [ha, ho]
        exact ⟨h1, ⟨o, upd_same, h⟩, h4⟩
      · cases hj
    · rename_i e
      have hd' := List.mem_of_getElem? hj
      obtain ⟨g1, ⟨u, g2, g3⟩, g4⟩ := k.ce d hd'
      have ne : d.a ≠ c.a := fun q => e (nodup_at k.nd hi hj q)
      exact ⟨g1, ⟨u, by rw [upd_ne ne]; exact g2, g3⟩, g4⟩
/-- a cell of one's own is frozen -/
theorem OkF.frz {i : Nat} {c : Cel} {o : HO} (k : OkF fr Θ F H) (hi : Θ[i]? = some c) (ho : c.own = true) (h : H c.a = some o) : OkF fr (Θ.eraseIdx i) (upd F c.a o) H := by
  have hm := List.mem_of_getElem? hi
  obtain ⟨h1, _, h4⟩ := k.ce c hm
  rw [if_pos ho] at h4
  have hlt := (List.getElem?_eq_some_iff.mp hi).1
  refine ⟨fun a u e => ?_, k.f0.trans (same_upd h1), fun a u e => ?_, k.h0, k.al, ?_, fun d hd => ?_⟩
  · by_cases q : a = c.a
    · rw [q, upd_same] at e
      rw [q, h, e]
    · rw [upd_ne q] at e
      exact k.fh a u e
  · by_cases q : a = c.a
    · rw [q]
      exact .inr (.inl h4)
    · rw [upd_ne q] at e
      exact k.nw a u e
  · exact (List.Sublist.map Cel.a (List.eraseIdx_sublist Θ i)).nodup k.nd
  · obtain ⟨j, hj⟩ := List.getElem?_of_mem hd
    rw [List.getElem?_eraseIdx] at hj
    have key : ∀ j', j' ≠ i → Θ[j']? = some d → (upd F c.a o) d.a = none ∧ (∃ u, H d.a = some u ∧ d.φ (upd F c.a o) u) ∧ (if d.own = true then fr.H0 d.a = none else d.a ∈ fr.B) := fun j' hne hj' => by
      obtain ⟨g1, ⟨u, g2, g3⟩, g4⟩ := k.ce d (List.mem_of_getElem? hj')
      have ne : d.a ≠ c.a := fun q => hne (nodup_at k.nd hi hj' q).symm
      exact ⟨by rw [upd_ne ne]; exact g1, ⟨u, g2, d.mono (same_upd h1) g3⟩, g4⟩
    split at hj
    · exact key j (by omega) hj
    · exact key (j + 1) (by omega) hj
theorem OkF.nwr {a : Addr} {o : HO} (k : OkF fr Θ F H) (ff : Same F F') (h : F' a = some o) (n : Nwr F H a o) : Nwr fr.F0 fr.H0 a o := by
  rcases n with ⟨o', h'⟩ | h' | h'
  · have e := ff a o' h'
    rw [h] at e
    cases e
    exact k.nw a o h'
  · exact .inr (.inl (k.h0n h'))
  · exact .inr (.inr h')
/-- after a call that lets all stand -/
theorem OkF.grow (k : OkF fr Θ F H) (hh : Same H H') (ff : Same F F') (fh : Same F' H') (nw : ∀ a o, F' a = some o → Nwr F H a o) : OkF fr Θ F' H' := by
  refine ⟨fh, k.f0.trans ff, fun a o h => ?_, fun a o hB h => hh _ _ (k.h0 a o hB h), fun a o h => ?_, k.nd, fun c hc => ?_⟩
  · exact k.nwr ff h (nw a o h)
  · obtain ⟨o', h'⟩ := k.al a o h
    exact ⟨o', hh _ _ h'⟩
  · obtain ⟨h1, ⟨u, h2, h3⟩, h4⟩ := k.ce c hc
    refine ⟨?_, ⟨u, hh _ _ h2, c.mono ff h3⟩, h4⟩
    cases q : F' c.a with
    | none => rfl
    | some o =>
      rcases nw _ _ q with ⟨o', h'⟩ | h' | ⟨vs, ht⟩
      · rw [h1] at h'
        cases h'
      · rw [h2] at h'
        cases h'
      · have e1 := fh _ _ q
        rw [hh _ _ h2] at e1
        exact (c.nt h3 ((Option.some.inj e1).trans ht)).elim
/-- at the start of a def: all that stands is frozen -/
theorem OkF.start (fh : Same F H) : OkF ⟨F, H, []⟩ [] F H := ⟨fh, Same.refl F, fun a o h => .inl ⟨o, h⟩, fun _ _ _ h => h, fun _ o h => ⟨o, h⟩, List.nodup_nil, fun c hc => by cases hc⟩
end
abbrev Gam := List (Option Vp)
def EnvF (Γ : Gam) (σ : L2.St) (F : Hp) : Prop := Paired (fun (e : Option Vp) (s : Option V) => ∀ p, e = some p → ∃ v, s = some v ∧ p.p F v) Γ σ
section
variable {Γ : Gam} {σ : L2.St} {F F' : Hp}
theorem EnvF.mono (h : EnvF Γ σ F) (e : Same F F') : EnvF Γ σ F' := Paired.imp2 (fun _ _ h p hp => by
  obtain ⟨v, h1, h2⟩ := h p hp
  exact ⟨v, h1, p.mono e h2⟩) h
theorem EnvF.get {i : Nat} {p : Vp} (h : EnvF Γ σ F) (hi : Γ[i]? = some (some p)) : ∃ v, σ[i]? = some (some v) ∧ p.p F v := by
  obtain ⟨s, h1, h2⟩ := Paired.get h hi
  obtain ⟨v, rfl, h3⟩ := h2 p rfl
  exact ⟨v, h1, h3⟩
theorem Paired.set {α β : Type} {R : α → β → Prop} {a : α} {b : β} (r : R a b) : ∀ {l : List α} {m : List β} (i : Nat), Paired R l m → Paired R (l.set i a) (m.set i b)
  | _, _, _, .nil => .nil
  | _, _, 0, .cons _ t => .cons r t
  | _, _, i + 1, .cons x t => .cons x (Paired.set r i t)
theorem EnvF.set {i : Nat} {p : Vp} {v : V} (h : EnvF Γ σ F) (hp : p.p F v) : EnvF (Γ.set i (some p)) (σ.set i (some v)) F :=
  Paired.set (fun q hq => by cases hq; exact ⟨v, rfl, hp⟩) i h
theorem EnvF.drop {i : Nat} {s : Option V} (h : EnvF Γ σ F) : EnvF (Γ.set i none) (σ.set i s) F := Paired.set (fun q hq => by cases hq) i h
theorem EnvF.len (h : EnvF Γ σ F) : Γ.length = σ.length := Paired.len h
end
def At (fr : Fr) (Γ : Gam) (Θ : List Cel) (σ : L2.St) (H : Hp) : Prop := ∃ F, OkF fr Θ F H ∧ EnvF Γ σ F
/-- wherever the names hold Γ and the cells Θ, P holds -/
def Kn (fr : Fr) (Γ : Gam) (Θ : List Cel) (P : L2.St → Hp → Prop) : Prop := ∀ σ F H, OkF fr Θ F H → EnvF Γ σ F → P σ H
def Kq (fr : Fr) (F : Hp) (K : Vp → List Cel → Prop) (Q : VK) : Prop := ∀ p Θ', K p Θ' → ∀ v F' H', Same F F' → OkF fr Θ' F' H' → p.p F' v → Q v H'
def Kb (fr : Fr) (F : Hp) (K : Bool → List Cel → Prop) (Q : Bool → Hp → Prop) : Prop := ∀ b Θ', K b Θ' → ∀ F' H', Same F F' → OkF fr Θ' F' H' → Q b H'
def Ka (fr : Fr) (F : Hp) (K : List Vp → List Cel → Prop) (Q : List V → Hp → Prop) : Prop := ∀ ps Θ', K ps Θ' → ∀ vs F' H', Same F F' → OkF fr Θ' F' H' → Paired (fun (p : Vp) v => p.p F' v) ps vs → Q vs H'
def Ko (fr : Fr) (F : Hp) (K : Option Int → List Cel → Prop) (Q : Option Int → Hp → Prop) : Prop := ∀ b Θ', K b Θ' → ∀ F' H', Same F F' → OkF fr Θ' F' H' → Q b H'
def We (fr : Fr) (Γ : Gam) (Θ : List Cel) (t : TE) (K : Vp → List Cel → Prop) : Prop := ∀ σ F H, OkF fr Θ F H → EnvF Γ σ F → ∀ Q, Kq fr F K Q → t σ H Q
def Wt (fr : Fr) (Γ : Gam) (Θ : List Cel) (t : TT) (K : Bool → List Cel → Prop) : Prop := ∀ σ F H, OkF fr Θ F H → EnvF Γ σ F → ∀ Q, Kb fr F K Q → t σ H Q
def Wa (fr : Fr) (Γ : Gam) (Θ : List Cel) (t : TA) (K : List Vp → List Cel → Prop) : Prop := ∀ σ F H, OkF fr Θ F H → EnvF Γ σ F → ∀ Q, Ka fr F K Q → t σ H Q
def Wo (fr : Fr) (Γ : Gam) (Θ : List Cel) (t : TO) (K : Option Int → List Cel → Prop) : Prop := ∀ σ F H, OkF fr Θ F H → EnvF Γ σ F → ∀ Q, Ko fr F K Q → t σ H Q
/-- by values -/
def Ops (fr : Fr) (Θ : List Cel) (r : R2) (p q : Vp) (K : Vp → List Cel → Prop) : Prop := ∀ F H v w, OkF fr Θ F H → p.p F v → q.p F w → ∀ Q, Kq fr F K Q → r v w H Q
def Uns (fr : Fr) (Θ : List Cel) (r : V → Hp → VK → Prop) (p : Vp) (K : Vp → List Cel → Prop) : Prop := ∀ F H v, OkF fr Θ F H → p.p F v → ∀ Q, Kq fr F K Q → r v H Q
def Cbs (fr : Fr) (Θ : List Cel) (r : List V → Hp → VK → Prop) (ps : List Vp) (K : Vp → List Cel → Prop) : Prop := ∀ F H vs, OkF fr Θ F H → Paired (fun (p : Vp) v => p.p F v) ps vs → ∀ Q, Kq fr F K Q → r vs H Q
def Mts (fr : Fr) (Θ : List Cel) (r : V → List V → Hp → VK → Prop) (p : Vp) (ps : List Vp) (K : Vp → List Cel → Prop) : Prop := ∀ F H v vs, OkF fr Θ F H → p.p F v → Paired (fun (p : Vp) v => p.p F v) ps vs → ∀ Q, Kq fr F K Q → r v vs H Q
def Sls (fr : Fr) (Θ : List Cel) (r : V → Option Int → Option Int → Hp → VK → Prop) (p : Vp) (lo hi : Option Int) (K : Vp → List Cel → Prop) : Prop := ∀ F H v, OkF fr Θ F H → p.p F v → ∀ Q, Kq fr F K Q → r v lo hi H Q
/-- the value alone, and nothing else changes -/
abbrev Ev (fr : Fr) (Γ : Gam) (Θ : List Cel) (t : TE) (p : Vp) : Prop := We fr Γ Θ t fun q Θ' => q = p ∧ Θ' = Θ
abbrev Et (fr : Fr) (Γ : Gam) (Θ : List Cel) (t : TT) (b : Bool) : Prop := Wt fr Γ Θ t fun c Θ' => c = b ∧ Θ' = Θ
section
variable {fr : Fr} {Γ Γ' : Gam} {Θ : List Cel} {F F' H H' : Hp} {K : Vp → List Cel → Prop} {Q : VK}
theorem Kq.mono (h : Kq fr F K Q) (e : Same F F') : Kq fr F' K Q := fun p Θ' k v F2 H2 s2 => h p Θ' k v F2 H2 (e.trans s2)
theorem Kq.go {p : Vp} {v : V} (h : Kq fr F K Q) (k : K p Θ) (ok : OkF fr Θ F H) (hp : p.p F v) : Q v H := h p Θ k v F H (Same.refl F) ok hp
/-- a new object -/
theorem Kq.new {p : Vp} {a : Addr} {o : HO} (h : Kq fr F K Q) (k : K p Θ) (ok : OkF fr Θ F H) (n : H a = none) (hp : p.p (upd F a o) (.ref a)) : Q (.ref a) (upd H a o) := h p Θ k _ _ _ (ok.sameF n) (ok.new n) hp
theorem We.imp {t : TE} {K' : Vp → List Cel → Prop} (w : We fr Γ Θ t K) (h : ∀ p Θ', K p Θ' → K' p Θ') : We fr Γ Θ t K' := fun σ F H ok env Q q => w σ F H ok env Q fun p Θ' k => q p Θ' (h p Θ' k)
theorem we_var {i : Nat} {p : Vp} (h : Γ[i]? = some (some p)) (k : K p Θ) : We fr Γ Θ (tVar i) K := fun σ F H ok env Q q => by
  obtain ⟨v, h1, h2⟩ := env.get h
  exact ⟨v, h1, q.go k ok h2⟩
theorem we_c {v : V} {p : Vp} (hp : ∀ F, p.p F v) (k : K p Θ) : We fr Γ Θ (tC v) K := fun σ F H ok env Q q => q.go k ok (hp F)
theorem we_cI {n : Int} (k : K (iz zI n) Θ) : We fr Γ Θ (tC (.int n)) K := we_c (fun _ => rfl) k
theorem we_cS {z : Str} (h : Asc z) (k : K (iz zS z) Θ) : We fr Γ Θ (tC (.str z)) K := we_c (p := iz zS z) (fun _ => ⟨rfl, h⟩) k
theorem we_cB {b : Bool} (k : K (iz zB b) Θ) : We fr Γ Θ (tC (.bl b)) K := we_c (fun _ => rfl) k
theorem we_cN (k : K zNon Θ) : We fr Γ Θ (tC .non) K := we_c (fun _ => rfl) k
theorem we_op {r : R2} {ta tb : TE} (w : We fr Γ Θ ta fun p Θ1 => We fr Γ Θ1 tb fun q Θ2 => Ops fr Θ2 r p q K) : We fr Γ Θ (tOp r ta tb) K := fun σ F H ok env Q q =>
  w σ F H ok env _ fun p Θ1 k v F1 H1 s1 ok1 hp => k σ F1 H1 ok1 (env.mono s1) _ fun p2 Θ2 k2 v2 F2 H2 s2 ok2 hp2 => k2 F2 H2 v v2 ok2 (p.mono s2 hp) hp2 Q (q.mono (s1.trans s2))
theorem we_un {r : V → Hp → VK → Prop} {ta : TE} (w : We fr Γ Θ ta fun p Θ1 => Uns fr Θ1 r p K) : We fr Γ Θ (tUn r ta) K := fun σ F H ok env Q q =>
  w σ F H ok env _ fun p Θ1 k v F1 H1 s1 ok1 hp => k F1 H1 v ok1 hp Q (q.mono s1)
theorem wa_nil {K : List Vp → List Cel → Prop} (k : K [] Θ) : Wa fr Γ Θ tNil K := fun σ F H ok env Q q => q [] Θ k [] F H (Same.refl F) ok .nil
theorem wa_cons {K : List Vp → List Cel → Prop} {ta : TE} {tr : TA} (w : We fr Γ Θ ta fun p Θ1 => Wa fr Γ Θ1 tr fun ps Θ2 => K (p :: ps) Θ2) : Wa fr Γ Θ (tCons ta tr) K := fun σ F H ok env Q q =>
  w σ F H ok env _ fun p Θ1 k v F1 H1 s1 ok1 hp => k σ F1 H1 ok1 (env.mono s1) _ fun ps Θ2 k2 vs F2 H2 s2 ok2 hps => q (p :: ps) Θ2 k2 (v :: vs) F2 H2 (s1.trans s2) ok2 (.cons (p.mono s2 hp) hps)
theorem we_cb {r : List V → Hp → VK → Prop} {t : TA} (w : Wa fr Γ Θ t fun ps Θ1 => Cbs fr Θ1 r ps K) : We fr Γ Θ (tCB r t) K := fun σ F H ok env Q q =>
  w σ F H ok env _ fun ps Θ1 k vs F1 H1 s1 ok1 hps => k F1 H1 vs ok1 hps Q (q.mono s1)
theorem we_bm {Kf : PySem.W.Frag} {T : String} {r : V → List V → Hp → VK → Prop} {to : TE} {t : TA} (w : We fr Γ Θ to fun p Θ1 => (∀ F H v, OkF fr Θ1 F H → p.p F v → tyV Kf T v H) ∧ Wa fr Γ Θ1 t fun ps Θ2 => Mts fr Θ2 r p ps K) : We fr Γ Θ (tBM Kf T r to t) K := fun σ F H ok env Q q =>
  w σ F H ok env _ fun p Θ1 ⟨kt, k⟩ v F1 H1 s1 ok1 hp => ⟨kt F1 H1 v ok1 hp, k σ F1 H1 ok1 (env.mono s1) _ fun ps Θ2 k2 vs F2 H2 s2 ok2 hps => k2 F2 H2 v vs ok2 (p.mono s2 hp) hps Q (q.mono (s1.trans s2))⟩
theorem wo_none {K : Option Int → List Cel → Prop} (k : K none Θ) : Wo fr Γ Θ tNoPart K := fun σ F H ok env Q q => q none Θ k F H (Same.refl F) ok
theorem wo_some {K : Option Int → List Cel → Prop} {t : TE} (w : We fr Γ Θ t fun p Θ1 => ∃ n, p = iz zI n ∧ K (some n) Θ1) : Wo fr Γ Θ (tPart t) K := fun σ F H ok env Q q =>
  w σ F H ok env _ fun p Θ1 ⟨n, e, k⟩ v F1 H1 s1 ok1 hp => by
    subst e
    exact ⟨n, hp, q (some n) Θ1 k F1 H1 s1 ok1⟩
theorem we_sl {r : V → Option Int → Option Int → Hp → VK → Prop} {te : TE} {tl th : TO} (w : We fr Γ Θ te fun p Θ1 => Wo fr Γ Θ1 tl fun lo Θ2 => Wo fr Γ Θ2 th fun hi Θ3 => Sls fr Θ3 r p lo hi K) : We fr Γ Θ (tSl r te tl th) K := fun σ F H ok env Q q =>
  w σ F H ok env _ fun p Θ1 k v F1 H1 s1 ok1 hp => k σ F1 H1 ok1 (env.mono s1) _ fun lo Θ2 k2 F2 H2 s2 ok2 => k2 σ F2 H2 ok2 ((env.mono s1).mono s2) _ fun hi Θ3 k3 F3 H3 s3 ok3 =>
    k3 F3 H3 v ok3 (p.mono (s2.trans s3) hp) Q (q.mono ((s1.trans s2).trans s3))
theorem wt_test {K : Bool → List Cel → Prop} {t : TE} (w : We fr Γ Θ t fun p Θ1 => ∃ b, p = iz zB b ∧ K b Θ1) : Wt fr Γ Θ (tTest t) K := fun σ F H ok env Q q =>
  w σ F H ok env _ fun p Θ1 ⟨b, e, k⟩ v F1 H1 s1 ok1 hp => by
    subst e
    exact ⟨b, hp, q b Θ1 k F1 H1 s1 ok1⟩
theorem wt_b {K : Bool → List Cel → Prop} {t : TE} (w : We fr Γ Θ t fun p Θ1 => ∃ b, p = iz zB b ∧ K b Θ1) : Wt fr Γ Θ (tB t) K := wt_test (fr := fr) w
theorem wt_not {K : Bool → List Cel → Prop} {t : TT} (w : Wt fr Γ Θ t fun b Θ1 => K (!b) Θ1) : Wt fr Γ Θ (tNot t) K := fun σ F H ok env Q q =>
  w σ F H ok env _ fun b Θ1 k F1 H1 s1 ok1 => q (!b) Θ1 k F1 H1 s1 ok1
theorem wt_and {K : Bool → List Cel → Prop} {t u : TT} {b c : Bool} (w : Et fr Γ Θ t b) (x : b = true → Et fr Γ Θ u c) (k : K (b && c) Θ) : Wt fr Γ Θ (tAnd t u) K := fun σ F H ok env Q q =>
  w σ F H ok env _ fun b1 Θ1 ⟨e1, e2⟩ F1 H1 s1 ok1 => by
    subst e1 e2
    cases b1 with
    | true =>
      rw [if_pos rfl]
      refine x rfl σ F1 H1 ok1 (env.mono s1) _ fun c1 Θ2 ⟨e1, e2⟩ F2 H2 s2 ok2 => ?_
      subst e1 e2
      exact q c1 _ k F2 H2 (s1.trans s2) ok2
    | false =>
      rw [if_neg Bool.false_ne_true]
      exact q false _ k F1 H1 s1 ok1
theorem wt_or {K : Bool → List Cel → Prop} {t u : TT} {b c : Bool} (w : Et fr Γ Θ t b) (x : b = false → Et fr Γ Θ u c) (k : K (b || c) Θ) : Wt fr Γ Θ (tOr t u) K := fun σ F H ok env Q q =>
  w σ F H ok env _ fun b1 Θ1 ⟨e1, e2⟩ F1 H1 s1 ok1 => by
    subst e1 e2
    cases b1 with
    | false =>
      rw [if_neg Bool.false_ne_true]
      refine x rfl σ F1 H1 ok1 (env.mono s1) _ fun c1 Θ2 ⟨e1, e2⟩ F2 H2 s2 ok2 => ?_
      subst e1 e2
      exact q c1 _ k F2 H2 (s1.trans s2) ok2
    | true =>
      rw [if_pos rfl]
      exact q true _ k F1 H1 s1 ok1
theorem we_not {t : TE} (w : We fr Γ Θ t fun p Θ1 => ∃ b, p = iz zB b ∧ K (iz zB (!b)) Θ1) : We fr Γ Θ (tNotV t) K := fun σ F H ok env Q q =>
  w σ F H ok env _ fun p Θ1 ⟨b, e, k⟩ v F1 H1 s1 ok1 hp => by
    subst e
    exact ⟨b, hp, q _ Θ1 k _ F1 H1 s1 ok1 rfl⟩
/-- a if c else b, by ways -/
theorem we_if {c : TT} {ta tb : TE} (w : Wt fr Γ Θ c fun b Θ1 => (b = true → We fr Γ Θ1 ta K) ∧ (b = false → We fr Γ Θ1 tb K)) : We fr Γ Θ (tIf c ta tb) K := fun σ F H ok env Q q =>
  w σ F H ok env _ fun b Θ1 ⟨k1, k2⟩ F1 H1 s1 ok1 => by
    cases b with
    | true =>
      rw [if_pos rfl]
      exact k1 rfl σ F1 H1 ok1 (env.mono s1) Q (q.mono s1)
    | false =>
      rw [if_neg Bool.false_ne_true]
      exact k2 rfl σ F1 H1 ok1 (env.mono s1) Q (q.mono s1)
theorem kn_seq {t u : TS} {D : Ends} (h : Kn fr Γ Θ (t { D with nx := u D })) : Kn fr Γ Θ (tSeq t u D) := h
theorem kn_next {D : Ends} (h : Kn fr Γ Θ D.nx) : Kn fr Γ Θ (tNext D) := h
/-- a target -/
def TgR (g : TG) (vs : List Nat) (p : Vp) (Γ Γ' : Gam) : Prop := ∀ σ F H v, Same F H → EnvF Γ σ F → p.p F v → ∀ Q : L2.St → Hp → Prop, (∀ σ', EnvF Γ' σ' F → wipe σ' vs = wipe σ vs → Q σ' H) → g v σ H Q
theorem tg_name {i : Nat} {p : Vp} : TgR (gName i) [i] p Γ (Γ.set i (some p)) := fun σ F H v fh env hp Q q => q _ (env.set hp) (by
  show (σ.set i (some v)).set i none = σ.set i none
  rw [List.set_set])
theorem set_comm' {α : Type} {l : List α} {i j : Nat} {a b : α} (h : i ≠ j) : (l.set i a).set j b = (l.set j b).set i a := List.set_comm a b h
theorem tg3 {Kf : PySem.W.Frag} {i j l : Nat} {α β γ : Type} {r : Rep α} {s : Rep β} {t : Rep γ} {x : α × β × γ} (hij : i ≠ j) (hil : i ≠ l) (hjl : j ≠ l) : TgR (gTup Kf 3 (gCons (gName i) (gCons (gName j) (gCons (gName l) gNil)))) [i, j, l] (iz (z3 r s t) x) Γ (((Γ.set i (some (iz r x.1))).set j (some (iz s x.2.1))).set l (some (iz t x.2.2))) := fun σ F H v fh env hp Q q => by
  obtain ⟨a, u, w, z, rfl, h2, h3, h4, h5⟩ := hp
  refine ⟨a, _, rfl, SqT.of (fh _ _ h2), rfl, u, _, rfl, w, _, rfl, z, _, rfl, rfl, q _ (((env.set (p := iz r x.1) h3).set (p := iz s x.2.1) h4).set (p := iz t x.2.2) h5) ?_⟩
  show ((((((σ.set i (some u)).set j (some w)).set l (some z)).set l none).set j none).set i none) = ((σ.set l none).set j none).set i none
  rw [List.set_set, set_comm' hjl, List.set_set, set_comm' hil, set_comm' hij, List.set_set]
theorem kn_asg {te : TE} {i : Nat} {D : Ends} (w : We fr Γ Θ te fun p Θ1 => Kn fr (Γ.set i (some p)) Θ1 D.nx) : Kn fr Γ Θ (tAsg te (gName i) D) := fun σ F H ok env =>
  w σ F H ok env _ fun p Θ1 k v F1 H1 s1 ok1 hp => k _ F1 H1 ok1 ((env.mono s1).set hp)
theorem kn_asgT {te : TE} {g : TG} {D : Ends} (w : We fr Γ Θ te fun p Θ1 => ∃ vs Γ', TgR g vs p Γ Γ' ∧ Kn fr Γ' Θ1 D.nx) : Kn fr Γ Θ (tAsg te g D) := fun σ F H ok env =>
  w σ F H ok env _ fun p Θ1 ⟨vs, Γ', tg, k⟩ v F1 H1 s1 ok1 hp => tg σ F1 H1 v ok1.fh (env.mono s1) hp _ fun σ' env' _ => k σ' F1 H1 ok1 env'
theorem kn_if {c : TT} {t u : TS} {D : Ends} (w : Wt fr Γ Θ c fun b Θ1 => (b = true → Kn fr Γ Θ1 (t D)) ∧ (b = false → Kn fr Γ Θ1 (u D))) : Kn fr Γ Θ (tIfS c t u D) := fun σ F H ok env =>
  w σ F H ok env _ fun b Θ1 ⟨k1, k2⟩ F1 H1 s1 ok1 => by
    cases b with
    | true =>
      rw [if_pos rfl]
      exact k1 rfl σ F1 H1 ok1 (env.mono s1)
    | false =>
      rw [if_neg Bool.false_ne_true]
      exact k2 rfl σ F1 H1 ok1 (env.mono s1)
/-- what is returned -/
def Rt (fr : Fr) (Θ : List Cel) (rt : VK) (p : Vp) : Prop := ∀ v F H, OkF fr Θ F H → p.p F v → rt v H
theorem kn_ret {te : TE} {D : Ends} (w : We fr Γ Θ te fun p Θ1 => Rt fr Θ1 D.rt p) : Kn fr Γ Θ (tRet te D) := fun σ F H ok env =>
  w σ F H ok env _ fun p Θ1 k v F1 H1 s1 ok1 hp => k v F1 H1 ok1 hp
/-- less is known -/
def GLe (Γ Γ' : Gam) : Prop := Paired (fun (e e' : Option Vp) => e' = none ∨ e' = e) Γ Γ'
theorem EnvF.le {σ : L2.St} (h : EnvF Γ σ F) (l : GLe Γ Γ') : EnvF Γ' σ F := by
  induction l generalizing σ with
  | nil => exact h
  | cons a _ ih =>
    cases h with
    | cons b c =>
      refine .cons (fun p hp => ?_) (ih c)
      rcases a with a | a
      · rw [a] at hp
        cases hp
      · rw [a] at hp
        exact b p hp
theorem Kn.le {P : L2.St → Hp → Prop} (k : Kn fr Γ' Θ P) (l : GLe Γ Γ') : Kn fr Γ Θ P := fun σ F H ok env => k σ F H ok (env.le l)
/-- a point where ways meet -/
def Mid (fr : Fr) (I : Gam → List Cel → Prop) (σ : L2.St) (H : Hp) : Prop := ∃ Γ Θ F, I Γ Θ ∧ OkF fr Θ F H ∧ EnvF Γ σ F
theorem kn_mid {I : Gam → List Cel → Prop} (h : ∃ Γ', GLe Γ Γ' ∧ I Γ' Θ) : Kn fr Γ Θ (Mid fr I) := fun σ F H ok env => by
  obtain ⟨Γ', l, i⟩ := h
  exact ⟨Γ', Θ, F, i, ok, env.le l⟩
theorem kn_cut {t u : TS} {D : Ends} (I : Gam → List Cel → Prop) (h : Kn fr Γ Θ (t { D with nx := Mid fr I })) (k : ∀ Γ Θ, I Γ Θ → Kn fr Γ Θ (u D)) : Kn fr Γ Θ (C8.tCut t u D) := fun σ F H ok env =>
  ⟨Mid fr I, h σ F H ok env, fun σ' H' ⟨Γ1, Θ1, F1, i, ok1, env1⟩ => k Γ1 Θ1 i σ' F1 H' ok1 env1⟩
end
end L2
set_option Elab.async false
set_option linter.all false
set_option maxRecDepth 100000
set_option maxHeartbeats 4000000
namespace L2
open PySem PySem.Spec PyProof.Rows PySem.HErr
section
variable {fr : Fr} {Γ Γ' : Gam} {Θ : List Cel} {F F' H H' : Hp} {K : Vp → List Cel → Prop} {Q : VK}
theorem ops_I0 {h : Int → Int → Int} {m n : Int} (k : K (iz zI (h m n)) Θ) : Ops fr Θ (rI0 fun i j => .int (h i j)) (iz zI m) (iz zI n) K := fun F H v w ok hv hw Q q => ⟨m, n, hv, hw, q.go k ok rfl⟩
theorem ops_B0 {h : Int → Int → Bool} {m n : Int} (k : K (iz zB (h m n)) Θ) : Ops fr Θ (rI0 fun i j => .bl (h i j)) (iz zI m) (iz zI n) K := fun F H v w ok hv hw Q q => ⟨m, n, hv, hw, q.go k ok rfl⟩
theorem ops_IC {C : Int → Int → Prop} {h : Int → Int → Int} {m n : Int} (c : C m n) (k : K (iz zI (h m n)) Θ) : Ops fr Θ (rI C fun i j => .int (h i j)) (iz zI m) (iz zI n) K := fun F H v w ok hv hw Q q => ⟨m, n, hv, hw, c, q.go k ok rfl⟩
theorem uns_I {h : Int → Int} {m : Int} (k : K (iz zI (h m)) Θ) : Uns fr Θ (rU fun i => .int (h i)) (iz zI m) K := fun F H v ok hv Q q => ⟨m, hv, q.go k ok rfl⟩
theorem dec_inj {α : Type} [DecidableEq α] {c : α → V} (hc : ∀ x y, c x = c y → x = y) (x y : α) : decide (c x = c y) = decide (x = y) := by
  by_cases e : x = y
  · rw [e, decide_eq_true rfl, decide_eq_true rfl]
  · rw [decide_eq_false e, decide_eq_false fun q => e (hc _ _ q)]
theorem ops_eqI {m n : Int} (k : K (iz zB (decide (m = n))) Θ) : Ops fr Θ rEq (iz zI m) (iz zI n) K := fun F H v w ok hv hw Q q => by
  have hv : v = .int m := hv
  have hw : w = .int n := hw
  subst hv hw
  refine ⟨rfl, ?_⟩
  rw [dec_inj (fun x y => V.int.inj)]
  exact q.go k ok rfl
theorem ops_neI {m n : Int} (k : K (iz zB (!decide (m = n))) Θ) : Ops fr Θ rNe (iz zI m) (iz zI n) K := fun F H v w ok hv hw Q q => by
  have hv : v = .int m := hv
  have hw : w = .int n := hw
  subst hv hw
  refine ⟨rfl, ?_⟩
  rw [dec_inj (fun x y => V.int.inj)]
  exact q.go k ok rfl
theorem ops_eqS {m n : Str} (k : K (iz zB (decide (m = n))) Θ) : Ops fr Θ rEq (iz zS m) (iz zS n) K := fun F H v w ok hv hw Q q => by
  obtain ⟨hv, _⟩ := hv
  obtain ⟨hw, _⟩ := hw
  subst hv hw
  refine ⟨rfl, ?_⟩
  rw [dec_inj (fun x y => V.str.inj)]
  exact q.go k ok rfl
theorem ops_neS {m n : Str} (k : K (iz zB (!decide (m = n))) Θ) : Ops fr Θ rNe (iz zS m) (iz zS n) K := fun F H v w ok hv hw Q q => by
  obtain ⟨hv, _⟩ := hv
  obtain ⟨hw, _⟩ := hw
  subst hv hw
  refine ⟨rfl, ?_⟩
  rw [dec_inj (fun x y => V.str.inj)]
  exact q.go k ok rfl
theorem ops_eqB {m n : Bool} (k : K (iz zB (decide (m = n))) Θ) : Ops fr Θ rEq (iz zB m) (iz zB n) K := fun F H v w ok hv hw Q q => by
  have hv : v = .bl m := hv
  have hw : w = .bl n := hw
  subst hv hw
  refine ⟨rfl, ?_⟩
  rw [dec_inj (fun x y => V.bl.inj)]
  exact q.go k ok rfl
theorem ops_neB {m n : Bool} (k : K (iz zB (!decide (m = n))) Θ) : Ops fr Θ rNe (iz zB m) (iz zB n) K := fun F H v w ok hv hw Q q => by
  have hv : v = .bl m := hv
  have hw : w = .bl n := hw
  subst hv hw
  refine ⟨rfl, ?_⟩
  rw [dec_inj (fun x y => V.bl.inj)]
  exact q.go k ok rfl
theorem ops_addS {m n : Str} (hl : m.length + n.length ≤ sizeLine) (k : K (iz zS (m ++ n)) Θ) : Ops fr Θ (fun x y H Q => ∃ i j, x = .str i ∧ y = .str j ∧ i.length + j.length ≤ sizeLine ∧ Q (.str (i ++ j)) H) (iz zS m) (iz zS n) K := fun F H v w ok hv hw Q q => by
  obtain ⟨hv, a1⟩ := hv
  obtain ⟨hw, a2⟩ := hw
  exact ⟨m, n, hv, hw, hl, q.go k ok ⟨rfl, a1.app a2⟩⟩
theorem pvs_S {vs : List V} {xs : List Str} (h : PVs zS F vs xs) : vs = xs.map V.str ∧ ∀ x ∈ xs, Asc x := by
  induction h with
  | nil => exact ⟨rfl, fun x hx => by cases hx⟩
  | cons a _ ih =>
    obtain ⟨a1, a2⟩ := a
    refine ⟨by rw [a1, ih.1]; rfl, fun x hx => ?_⟩
    rcases List.mem_cons.mp hx with rfl | hx
    · exact a2
    · exact ih.2 x hx
theorem pvs_I {vs : List V} {xs : List Int} (h : PVs zI F vs xs) : vs = xs.map V.int := by
  induction h with
  | nil => rfl
  | cons a _ ih =>
    have a : _ = V.int _ := a
    rw [a, ih]
    rfl
theorem pvs_B {vs : List V} {xs : List Bool} (h : PVs zB F vs xs) : vs = xs.map V.bl := by
  induction h with
  | nil => rfl
  | cons a _ ih =>
    have a : _ = V.bl _ := a
    rw [a, ih]
    rfl
theorem inV_ints (n : Int) (ws : List Int) : inV (.int n) (ws.map V.int) = decide (n ∈ ws) := by
  induction ws with
  | nil => rfl
  | cons a ws ih =>
    unfold inV at ih ⊢
    rw [List.map_cons, List.any_cons, ih]
    have e : eqV (V.int a) (V.int n) = decide (a = n) := rfl
    rw [e]
    by_cases h : a = n
    · rw [h]
      simp
    · rw [decide_eq_false h, Bool.false_or]
      by_cases h2 : n ∈ ws
      · rw [decide_eq_true h2, decide_eq_true (List.mem_cons_of_mem _ h2)]
      · rw [decide_eq_false h2, decide_eq_false fun q => (List.mem_cons.mp q).elim (fun e => h e.symm) h2]
theorem flat_intsG (ws : List Int) : (ws.map V.int).all flatV = true := by
  rw [List.all_map, List.all_eq_true]
  intro x _
  rfl
/-- a thing whose entries are xs, to be read: a frozen list, a frozen tuple, a cell -/
def SeqP {α : Type} (fr : Fr) (Θ : List Cel) (p : Vp) (r : Rep α) (xs : List α) : Prop := ∀ F H v, OkF fr Θ F H → p.p F v → ∃ a vs, v = .ref a ∧ (Rd H a (.lst vs) ∨ Rd H a (.tup vs)) ∧ PVs r F vs xs
theorem seq_L {α : Type} {r : Rep α} {xs : List α} : SeqP fr Θ (iz (zL r) xs) r xs := fun F H v ok ⟨a, vs, h1, h2, h3⟩ => ⟨a, vs, h1, .inl (.inl (ok.fh _ _ h2)), h3⟩
theorem seq_T {α : Type} [TNar α] {r : Rep α} {xs : List α} : SeqP fr Θ (iz (zT r) xs) r xs := fun F H v ok ⟨a, vs, h1, h2, h3⟩ => ⟨a, vs, h1, .inr (h2.mono ok.fh).rd, h3⟩
theorem sq_or {Kf : PySem.W.Frag} {a : Addr} {vs : List V} (h : Rd H a (.lst vs) ∨ Rd H a (.tup vs)) : SqL Kf H a vs ∨ SqT Kf H a vs := h.elim (fun h => .inl (.inl h)) fun h => .inr (.inl h)
theorem ops_inS {Kf : PySem.W.Frag} {p : Vp} {z : Str} {xs : List Str} (h : SeqP fr Θ p zS xs) (k : K (iz zB (decide (z ∈ xs))) Θ) : Ops fr Θ (rIn Kf false) (iz zS z) p K := fun F H v w ok hv hw Q q => by
  obtain ⟨hv, _⟩ := hv
  obtain ⟨a, vs, rfl, h2, h3⟩ := h F H w ok hw
  obtain ⟨rfl, _⟩ := pvs_S h3
  subst hv
  refine ⟨a, _, rfl, sq_or h2, rfl, flat_strsB _, ?_⟩
  rw [inV_strs]
  exact q.go k ok rfl
theorem ops_ninS {Kf : PySem.W.Frag} {p : Vp} {z : Str} {xs : List Str} (h : SeqP fr Θ p zS xs) (k : K (iz zB (!decide (z ∈ xs))) Θ) : Ops fr Θ (rIn Kf true) (iz zS z) p K := fun F H v w ok hv hw Q q => by
  obtain ⟨hv, _⟩ := hv
  obtain ⟨a, vs, rfl, h2, h3⟩ := h F H w ok hw
  obtain ⟨rfl, _⟩ := pvs_S h3
  subst hv
  refine ⟨a, _, rfl, sq_or h2, rfl, flat_strsB _, ?_⟩
  rw [inV_strs]
  exact q.go k ok rfl
theorem ops_inI {Kf : PySem.W.Frag} {p : Vp} {z : Int} {xs : List Int} (h : SeqP fr Θ p zI xs) (k : K (iz zB (decide (z ∈ xs))) Θ) : Ops fr Θ (rIn Kf false) (iz zI z) p K := fun F H v w ok hv hw Q q => by
  have hv : v = .int z := hv
  obtain ⟨a, vs, rfl, h2, h3⟩ := h F H w ok hw
  have := pvs_I h3
  subst hv this
  refine ⟨a, _, rfl, sq_or h2, rfl, flat_intsG _, ?_⟩
  rw [inV_ints]
  exact q.go k ok rfl
theorem pvs_at {α : Type} {r : Rep α} {vs : List V} {xs : List α} {n : Int} {x : α} (h : PVs r F vs xs) (e : atI xs n = some x) : ∃ v, atI vs n = some v ∧ r.p F v x := by
  unfold atI at e ⊢
  rw [Paired.len h]
  cases q : ixN xs.length n with
  | none =>
    rw [q] at e
    cases e
  | some j =>
    rw [q] at e
    exact Paired.get' h e
theorem ops_ixL {Kf : PySem.W.Frag} {α : Type} {r : Rep α} {xs : List α} {n : Int} {x : α} (e : atI xs n = some x) (k : K (iz r x) Θ) : Ops fr Θ (rIxL Kf) (iz (zL r) xs) (iz zI n) K := fun F H v w ok hv hw Q q => by
  obtain ⟨a, vs, rfl, h2, h3⟩ := hv
  obtain ⟨u, h4, h5⟩ := pvs_at h3 e
  exact ⟨a, vs, n, u, rfl, hw, SqL.of (ok.fh _ _ h2), h4, q.go k ok h5⟩
/-- x[0], x[1] of a pair; x[0], x[1], x[2] of a triple -/
theorem ops_ix20 {Kf : PySem.W.Frag} {α β : Type} {r : Rep α} {s : Rep β} {x : α × β} (k : K (iz r x.1) Θ) : Ops fr Θ (rIxT Kf) (iz (z2 r s) x) (iz zI 0) K := fun F H v w ok hv hw Q q => by
  obtain ⟨a, u, z, rfl, h2, h3, h4⟩ := hv
  exact ⟨a, _, 0, u, rfl, hw, SqT.of (ok.fh _ _ h2), rfl, q.go k ok h3⟩
theorem ops_ix21 {Kf : PySem.W.Frag} {α β : Type} {r : Rep α} {s : Rep β} {x : α × β} (k : K (iz s x.2) Θ) : Ops fr Θ (rIxT Kf) (iz (z2 r s) x) (iz zI 1) K := fun F H v w ok hv hw Q q => by
  obtain ⟨a, u, z, rfl, h2, h3, h4⟩ := hv
  exact ⟨a, _, 1, z, rfl, hw, SqT.of (ok.fh _ _ h2), rfl, q.go k ok h4⟩
theorem ops_ix30 {Kf : PySem.W.Frag} {α β γ : Type} {r : Rep α} {s : Rep β} {t : Rep γ} {x : α × β × γ} (k : K (iz r x.1) Θ) : Ops fr Θ (rIxT Kf) (iz (z3 r s t) x) (iz zI 0) K := fun F H v w ok hv hw Q q => by
  obtain ⟨a, u, z, y, rfl, h2, h3, h4, h5⟩ := hv
  exact ⟨a, _, 0, u, rfl, hw, SqT.of (ok.fh _ _ h2), rfl, q.go k ok h3⟩
theorem ops_ix31 {Kf : PySem.W.Frag} {α β γ : Type} {r : Rep α} {s : Rep β} {t : Rep γ} {x : α × β × γ} (k : K (iz s x.2.1) Θ) : Ops fr Θ (rIxT Kf) (iz (z3 r s t) x) (iz zI 1) K := fun F H v w ok hv hw Q q => by
  obtain ⟨a, u, z, y, rfl, h2, h3, h4, h5⟩ := hv
  exact ⟨a, _, 1, z, rfl, hw, SqT.of (ok.fh _ _ h2), rfl, q.go k ok h4⟩
theorem ops_ix32 {Kf : PySem.W.Frag} {α β γ : Type} {r : Rep α} {s : Rep β} {t : Rep γ} {x : α × β × γ} (k : K (iz t x.2.2) Θ) : Ops fr Θ (rIxT Kf) (iz (z3 r s t) x) (iz zI 2) K := fun F H v w ok hv hw Q q => by
  obtain ⟨a, u, z, y, rfl, h2, h3, h4, h5⟩ := hv
  exact ⟨a, _, 2, y, rfl, hw, SqT.of (ok.fh _ _ h2), rfl, q.go k ok h5⟩
theorem ops_ixS {z : Str} {n : Int} {c : Nat} (hl : z.length ≤ sizeLine) (e : atI z.cps.toList n = some c) (k : K (iz zS ⟨#[c]⟩) Θ) : Ops fr Θ rIxS (iz zS z) (iz zI n) K := fun F H v w ok hv hw Q q => by
  obtain ⟨hv, ha⟩ := hv
  refine ⟨z, n, c, hv, hw, hl, e, q.go k ok ⟨rfl, Asc.one (ha c ?_)⟩⟩
  unfold atI at e
  cases j : ixN z.cps.toList.length n with
  | none => rw [j] at e; cases e
  | some j' =>
    rw [j] at e
    exact List.mem_of_getElem? e
def TupR (ps : List Vp) (q : Vp) : Prop := ∀ F a vs, F a = some (HO.tup vs) → Paired (fun (p : Vp) v => p.p F v) ps vs → q.p F (.ref a)
theorem small_len {α β : Type} {R : α → β → Prop} {l : List α} {m : List β} (h : Paired R l m) (hl : l.length ≤ 1000) : m.length ≤ sizeLine := by
  rw [← Paired.len h]
  exact Nat.le_of_lt (small1000 hl)
theorem ps_mono {ps : List Vp} {vs : List V} (e : Same F F') (h : Paired (fun (p : Vp) v => p.p F v) ps vs) : Paired (fun (p : Vp) v => p.p F' v) ps vs := Paired.imp2 (fun p _ h => p.mono e h) h
theorem we_tup {t : TA} (w : Wa fr Γ Θ t fun ps Θ1 => ps.length ≤ 1000 ∧ ∃ q, TupR ps q ∧ K q Θ1) : We fr Γ Θ (tTup t) K := fun σ F H ok env Q q =>
  w σ F H ok env _ fun ps Θ1 ⟨hl, p, tr, k⟩ vs F1 H1 s1 ok1 hps => ⟨small_len hps hl, fun a na => (q.mono s1).new k ok1 na (tr _ a vs upd_same (ps_mono (ok1.sameF na) hps))⟩
theorem tr2 {α β : Type} {r : Rep α} {s : Rep β} {x : α} {y : β} : TupR [iz r x, iz s y] (iz (z2 r s) (x, y)) := fun F a vs h hp => by
  cases hp with
  | cons h1 hp => cases hp with
    | cons h2 hp => cases hp with
      | nil => exact ⟨a, _, _, rfl, h, h1, h2⟩
theorem pvs_map {α : Type} {r : Rep α} {vs : List V} : ∀ {xs : List α}, Paired (fun (p : Vp) v => p.p F v) (xs.map (iz r)) vs → PVs r F vs xs := fun {xs} h => by
  induction xs generalizing vs with
  | nil => cases h; exact .nil
  | cons x xs ih => cases h with
    | cons a b => exact .cons a (ih b)
/-- a list, frozen -/
theorem we_lst {α : Type} {r : Rep α} {t : TA} (w : Wa fr Γ Θ t fun ps Θ1 => ∃ xs : List α, ps = xs.map (iz r) ∧ ps.length ≤ 1000 ∧ K (iz (zL r) xs) Θ1) : We fr Γ Θ (tLst t) K := fun σ F H ok env Q q =>
  w σ F H ok env _ fun ps Θ1 ⟨xs, e, hl, k⟩ vs F1 H1 s1 ok1 hps => ⟨small_len hps hl, fun a na => by
    subst e
    exact (q.mono s1).new k ok1 na ⟨a, vs, rfl, upd_same, pvs_map (ps_mono (ok1.sameF na) hps)⟩⟩
theorem cb_len {Kf : PySem.W.Frag} {α : Type} {r : Rep α} {xs : List α} {p : Vp} (h : SeqP fr Θ p r xs) (k : K (iz zI xs.length) Θ) : Cbs fr Θ (rLenQ Kf) [p] K := fun F H vs ok hps Q q => by
  cases hps with
  | cons h1 hp => cases hp with
    | nil =>
      obtain ⟨a, us, rfl, h2, h3⟩ := h F H _ ok h1
      refine ⟨a, us, rfl, sq_or h2, ?_⟩
      rw [Paired.len h3]
      exact q.go k ok rfl
theorem cb_lenS {z : Str} (hl : z.length ≤ sizeLine) (k : K (iz zI z.length) Θ) : Cbs fr Θ (fun xs H Q => ∃ z, xs = [.str z] ∧ z.length ≤ sizeLine ∧ Q (.int z.length) H) [iz zS z] K := fun F H vs ok hps Q q => by
  cases hps with
  | cons h1 hp => cases hp with
    | nil => exact ⟨z, by rw [h1.1], hl, q.go k ok rfl⟩
theorem cb_list {Kf : PySem.W.Frag} {α : Type} {r : Rep α} {xs : List α} {p : Vp} (h : SeqP fr Θ p r xs) (k : K (iz (zL r) xs) Θ) : Cbs fr Θ (rListQ Kf) [p] K := fun F H vs ok hps Q q => by
  cases hps with
  | cons h1 hp => cases hp with
    | nil =>
      obtain ⟨a, us, rfl, h2, h3⟩ := h F H _ ok h1
      exact ⟨a, us, rfl, sq_or h2, fun l nl => q.new k ok nl ⟨l, us, rfl, upd_same, Paired.imp2 (fun _ _ h => r.mono (ok.sameF nl) h) h3⟩⟩
theorem cb_tuple {Kf : PySem.W.Frag} {α : Type} [TNar α] {r : Rep α} {xs : List α} {p : Vp} (h : ∀ F H v, OkF fr Θ F H → p.p F v → ∃ a vs, v = .ref a ∧ (H a = some (.lst vs) ∨ TupB (TNar.nar xs) F a vs) ∧ PVs r F vs xs) (k : K (iz (zT r) xs) Θ) : Cbs fr Θ (rTupQ Kf) [p] K := fun F H vs ok hps Q q => by
  cases hps with
  | cons h1 hp => cases hp with
    | nil =>
      obtain ⟨a, us, rfl, h2, h3⟩ := h F H _ ok h1
      refine ⟨a, us, rfl, ?_⟩
      rcases h2 with h2 | h2
      · exact .inl ⟨SqL.of h2, fun l nl => q.new k ok nl ⟨l, us, rfl, .inl upd_same, Paired.imp2 (fun _ _ h => r.mono (ok.sameF nl) h) h3⟩⟩
      · exact .inr ⟨h2.sq ok.fh, q.go k ok ⟨a, us, rfl, h2, h3⟩⟩
theorem cb_tupleL {Kf : PySem.W.Frag} {α : Type} [TNar α] {r : Rep α} {xs : List α} (k : K (iz (zT r) xs) Θ) : Cbs fr Θ (rTupQ Kf) [iz (zL r) xs] K := cb_tuple (fun F H v ok ⟨a, vs, h1, h2, h3⟩ => ⟨a, vs, h1, .inl (ok.fh _ _ h2), h3⟩) k
theorem cb_tupleT {Kf : PySem.W.Frag} {α : Type} [TNar α] {r : Rep α} {xs : List α} (k : K (iz (zT r) xs) Θ) : Cbs fr Θ (rTupQ Kf) [iz (zT r) xs] K := cb_tuple (fun F H v ok ⟨a, vs, h1, h2, h3⟩ => ⟨a, vs, h1, .inr h2, h3⟩) k
theorem cb_any {Kf : PySem.W.Frag} {xs : List Bool} (k : K (iz zB (xs.any id)) Θ) : Cbs fr Θ (rAny Kf) [iz (zL zB) xs] K := fun F H vs ok hps Q q => by
  cases hps with
  | cons h1 hp => cases hp with
    | nil =>
      obtain ⟨a, us, rfl, h2, h3⟩ := h1
      have := pvs_B h3
      subst this
      exact ⟨a, xs, rfl, SqL.of (ok.fh _ _ h2), q.go k ok rfl⟩
theorem cb_all {Kf : PySem.W.Frag} {xs : List Bool} (k : K (iz zB (xs.all id)) Θ) : Cbs fr Θ (rAll Kf) [iz (zL zB) xs] K := fun F H vs ok hps Q q => by
  cases hps with
  | cons h1 hp => cases hp with
    | nil =>
      obtain ⟨a, us, rfl, h2, h3⟩ := h1
      have := pvs_B h3
      subst this
      exact ⟨a, xs, rfl, SqL.of (ok.fh _ _ h2), q.go k ok rfl⟩
theorem cb_sum {Kf : PySem.W.Frag} {xs : List Int} (k : K (iz zI xs.sum) Θ) : Cbs fr Θ (rSum Kf) [iz (zL zI) xs] K := fun F H vs ok hps Q q => by
  cases hps with
  | cons h1 hp => cases hp with
    | nil =>
      obtain ⟨a, us, rfl, h2, h3⟩ := h1
      have := pvs_I h3
      subst this
      exact ⟨a, xs, rfl, SqL.of (ok.fh _ _ h2), q.go k ok rfl⟩
theorem cb_int {n : Int} (k : K (iz zI n) Θ) : Cbs fr Θ (fun xs H Q => (∃ i, xs = [.int i] ∧ Q (.int i) H) ∨ ∃ k, xs = [.bl k] ∧ Q (.int (if k then 1 else 0)) H) [iz zI n] K := fun F H vs ok hps Q q => by
  cases hps with
  | cons h1 hp => cases hp with
    | nil =>
      have h1 : _ = V.int n := h1
      subst h1
      exact .inl ⟨n, rfl, q.go k ok rfl⟩
theorem cb_abs {n : Int} (k : K (iz zI (if n < 0 then -n else n)) Θ) : Cbs fr Θ (fun xs H Q => ∃ i, xs = [.int i] ∧ Q (.int (if i < 0 then -i else i)) H) [iz zI n] K := fun F H vs ok hps Q q => by
  cases hps with
  | cons h1 hp => cases hp with
    | nil =>
      have h1 : _ = V.int n := h1
      subst h1
      exact ⟨n, rfl, q.go k ok rfl⟩
def Newer (F H F' : Hp) : Prop := ∀ a o, F' a = some o → Nwr F H a o
theorem Newer.refl (F H : Hp) : Newer F H F := fun _ o h => .inl ⟨o, h⟩
/-- the iterator J gives the things its, as long as F stands -/
def JOk (J : It) (F : Hp) (its : List Vp) : Prop := ∀ F1 H1, Same F F1 → Same F1 H1 → (∀ i p, its[i]? = some p → J.go i H1 ∧ ∀ x H2, J.yld i H1 x H2 → ∃ F2, Same F1 F2 ∧ Same H1 H2 ∧ Same F2 H2 ∧ Newer F1 H1 F2 ∧ p.p F2 x) ∧ J.stop its.length H1
def Wi (fr : Fr) (Γ : Gam) (Θ : List Cel) (wi : TI) (K : List Vp → List Cel → Prop) : Prop := ∀ σ F H, OkF fr Θ F H → EnvF Γ σ F → ∀ R : It → Hp → Prop, (∀ its Θ', K its Θ' → ∀ J F' H', Same F F' → OkF fr Θ' F' H' → JOk J F' its → R J H') → wi σ H R
theorem get_izs {α : Type} {r : Rep α} {xs : List α} {i : Nat} {p : Vp} (h : (xs.map (iz r))[i]? = some p) : ∃ x, xs[i]? = some x ∧ p = iz r x := by
  rw [List.getElem?_map] at h
  obtain ⟨x, hx, e⟩ := Option.map_eq_some_iff.mp h
  exact ⟨x, hx, e.symm⟩
theorem wi_list {Kf : PySem.W.Frag} {tl : TE} {K : List Vp → List Cel → Prop} (w : We fr Γ Θ tl fun p Θ1 => ∃ (α : Type) (r : Rep α) (xs : List α), p = iz (zL r) xs ∧ K (xs.map (iz r)) Θ1) : Wi fr Γ Θ (iList Kf tl) K := fun σ F H ok env R q =>
  w σ F H ok env _ fun p Θ1 ⟨α, r, xs, e, k⟩ v F1 H1 s1 ok1 hp => by
    subst e
    obtain ⟨a, vs, rfl, h2, h3⟩ := hp
    refine ⟨a, rfl, ⟨_, SqL.of (ok1.fh _ _ h2)⟩, q _ Θ1 k _ F1 H1 s1 ok1 fun F2 H2 s2 fh => ⟨fun i p hi => ?_, ?_⟩⟩
    · obtain ⟨x, hx, rfl⟩ := get_izs hi
      obtain ⟨u, hu, hux⟩ := Paired.get' h3 hx
      have sq : SqL Kf H2 a vs := SqL.of (fh _ _ (s2 _ _ h2))
      refine ⟨⟨vs, u, sq, hu⟩, fun y H3 ⟨e, hy⟩ => ?_⟩
      subst e
      have hy := hy vs sq
      rw [hu] at hy
      cases hy
      exact ⟨F2, Same.refl _, Same.refl _, fh, Newer.refl _ _, r.mono s2 hux⟩
    · rw [List.length_map, ← Paired.len h3]
      exact ⟨vs, SqL.of (fh _ _ (s2 _ _ h2)), Nat.le_refl _⟩
theorem wi_tup {Kf : PySem.W.Frag} {tl : TE} {K : List Vp → List Cel → Prop} (w : We fr Γ Θ tl fun p Θ1 => ∃ (α : Type) (_ : TNar α) (r : Rep α) (xs : List α), p = iz (zT r) xs ∧ K (xs.map (iz r)) Θ1) : Wi fr Γ Θ (iTup Kf tl) K := fun σ F H ok env R q =>
  w σ F H ok env _ fun p Θ1 ⟨α, _, r, xs, e, k⟩ v F1 H1 s1 ok1 hp => by
    subst e
    obtain ⟨a, vs, rfl, h2, h3⟩ := hp
    refine ⟨a, rfl, ⟨_, h2.sq ok1.fh⟩, q _ Θ1 k _ F1 H1 s1 ok1 fun F2 H2 s2 fh => ⟨fun i p hi => ?_, ?_⟩⟩
    · obtain ⟨x, hx, rfl⟩ := get_izs hi
      obtain ⟨u, hu, hux⟩ := Paired.get' h3 hx
      have sq : SqT Kf H2 a vs := (h2.mono s2).sq fh
      refine ⟨⟨vs, u, sq, hu⟩, fun y H3 ⟨e, hy⟩ => ?_⟩
      subst e
      have hy := hy vs sq
      rw [hu] at hy
      cases hy
      exact ⟨F2, Same.refl _, Same.refl _, fh, Newer.refl _ _, r.mono s2 hux⟩
    · rw [List.length_map, ← Paired.len h3]
      exact ⟨vs, (h2.mono s2).sq fh, Nat.le_refl _⟩
def intsF (lo : Int) (n : Nat) : List Int := (List.range n).map fun i : Nat => lo + (i : Int)
theorem intsF_get {lo : Int} {n i : Nat} {x : Int} (h : (intsF lo n)[i]? = some x) : i < n ∧ x = lo + i := by
  unfold intsF at h
  rw [List.getElem?_map] at h
  obtain ⟨j, hj, e⟩ := Option.map_eq_some_iff.mp h
  rcases Nat.lt_or_ge i n with h | h
  · rw [List.getElem?_range h] at hj
    cases hj
    exact ⟨h, e.symm⟩
  · rw [List.getElem?_eq_none (by rw [List.length_range]; exact h)] at hj
    cases hj
theorem intsF_len (lo : Int) (n : Nat) : (intsF lo n).length = n := by
  unfold intsF
  rw [List.length_map, List.length_range]
theorem jok_r (lo : Int) (n : Nat) : JOk (Itr lo n) F ((intsF lo n).map (iz zI)) := fun F2 H2 s2 fh => ⟨fun i p hi => by
    obtain ⟨x, hx, rfl⟩ := get_izs hi
    obtain ⟨h1, rfl⟩ := intsF_get hx
    exact ⟨h1, fun y H3 ⟨e, hy⟩ => by
      subst e
      exact ⟨F2, Same.refl _, Same.refl _, fh, Newer.refl _ _, hy⟩⟩, by
    rw [List.length_map, intsF_len]
    exact Nat.le_refl _⟩
theorem wi_range {ta : TA} {K : List Vp → List Cel → Prop} (w : Wa fr Γ Θ ta fun ps Θ1 => ∃ n : Int, ps = [iz zI n] ∧ -(2 ^ 62) ≤ n ∧ n < 2 ^ 62 ∧ K ((intsF 0 n.toNat).map (iz zI)) Θ1) : Wi fr Γ Θ (iRng1 ta) K := fun σ F H ok env R q =>
  w σ F H ok env _ fun ps Θ1 ⟨n, e, b1, b2, k⟩ vs F1 H1 s1 ok1 hps => by
    subst e
    cases hps with
    | cons h1 hp => cases hp with
      | nil =>
        have h1 : _ = V.int n := h1
        subst h1
        exact ⟨n, rfl, b1, b2, q _ Θ1 k _ F1 H1 s1 ok1 (jok_r 0 n.toNat)⟩
theorem wi_range2 {ta : TA} {K : List Vp → List Cel → Prop} (w : Wa fr Γ Θ ta fun ps Θ1 => ∃ m n : Int, ps = [iz zI m, iz zI n] ∧ (-(2 ^ 62) ≤ m ∧ m < 2 ^ 62 ∧ -(2 ^ 62) ≤ n ∧ n < 2 ^ 62) ∧ K ((intsF m (n - m).toNat).map (iz zI)) Θ1) : Wi fr Γ Θ (iRng2 ta) K := fun σ F H ok env R q =>
  w σ F H ok env _ fun ps Θ1 ⟨m, n, e, b, k⟩ vs F1 H1 s1 ok1 hps => by
    subst e
    cases hps with
    | cons h1 hp => cases hp with
      | cons h2 hp => cases hp with
        | nil =>
          have h1 : _ = V.int m := h1
          have h2 : _ = V.int n := h2
          subst h1 h2
          exact ⟨m, n, rfl, b, q _ Θ1 k _ F1 H1 s1 ok1 (jok_r m _)⟩
/-- a finer start: more is frozen -/
structure FrLe (fr fr' : Fr) : Prop where
  h : fr'.H0 = fr.H0
  b : fr'.B = fr.B
  f : Same fr.F0 fr'.F0
  n : ∀ a o, fr'.F0 a = some o → Nwr fr.F0 fr.H0 a o
theorem OkF.le {fr' : Fr} (ok : OkF fr' Θ F H) (l : FrLe fr fr') : OkF fr Θ F H := by
  obtain ⟨a1, a2, a3, a4⟩ := l
  refine ⟨ok.fh, a3.trans ok.f0, fun a o h => ?_, fun a o hB h => ok.h0 a o (by rw [a2]; exact hB) (by rw [a1]; exact h), fun a o h => ok.al a o (by rw [a1]; exact h), ok.nd, fun c hc => ?_⟩
  · rcases ok.nw a o h with ⟨o', h'⟩ | h' | h'
    · have e := ok.f0 a o' h'
      rw [h] at e
      cases e
      exact a4 a o h'
    · exact .inr (.inl (by rw [a1] at h'; exact h'))
    · exact .inr (.inr h')
  · have := ok.ce c hc
    rw [a1, a2] at this
    exact this
theorem OkF.fine {F1 H1 : Hp} {Θ1 : List Cel} (ok1 : OkF fr Θ1 F1 H1) : FrLe fr ⟨F1, fr.H0, fr.B⟩ := ⟨rfl, rfl, ok1.f0, ok1.nw⟩
theorem FrLe.trans {fr1 fr2 : Fr} (x : FrLe fr fr1) (y : FrLe fr1 fr2) : FrLe fr fr2 := ⟨y.h.trans x.h, y.b.trans x.b, x.f.trans y.f, fun a o h => (y.n a o h).elim (fun ⟨o', h'⟩ => by
  have e := y.f a o' h'
  rw [h] at e
  cases e
  exact x.n a o h') fun h' => h'.elim (fun h' => .inr (.inl (by rw [x.h] at h'; exact h'))) fun h' => .inr (.inr h')⟩
theorem Kn.fine {fr' : Fr} {P : L2.St → Hp → Prop} (k : Kn fr Γ Θ P) (l : FrLe fr fr') : Kn fr' Γ Θ P := fun σ F H ok env => k σ F H (ok.le l) env
theorem Rt.fine {fr' : Fr} {rt : VK} {p : Vp} (k : Rt fr Θ rt p) (l : FrLe fr fr') : Rt fr' Θ rt p := fun v F H ok h => k v F H (ok.le l) h
theorem kn_for {wi : TI} {g : TG} {tb : TS} {D : Ends} (w : Wi fr Γ Θ wi fun its Θ1 => ∃ I : Nat → Gam → List Cel → Prop, (∃ Γ0, GLe Γ Γ0 ∧ I 0 Γ0 Θ1) ∧
    (∀ fr', FrLe fr fr' → ∀ i p Γ1 Θ2, its[i]? = some p → I i Γ1 Θ2 → ∃ vs Γ2, TgR g vs p Γ1 Γ2 ∧ Kn fr' Γ2 Θ2 (tb { D with nx := Mid fr' (I (i + 1)), ct := Mid fr' (I (i + 1)), bk := D.nx })) ∧ ∀ Γ1 Θ2, I its.length Γ1 Θ2 → Kn fr Γ1 Θ2 D.nx) : Kn fr Γ Θ (tFor wi g tb D) := fun σ F H ok env =>
  w σ F H ok env _ fun its Θ1 ⟨I, ⟨Γ0, l0, i0⟩, hs, hd⟩ J F1 H1 s1 ok1 jok => by
    have le := ok1.fine
    have up : ∀ {Θ2 : List Cel} {F2 H2 : Hp}, OkF fr Θ2 F2 H2 → Same F1 F2 → OkF ⟨F1, fr.H0, fr.B⟩ Θ2 F2 H2 := fun ok s => ⟨ok.fh, s, fun a o h => (ok.nw a o h).elim (fun ⟨o', h'⟩ => .inl ⟨o', ok1.f0 _ _ h'⟩) .inr, ok.h0, ok.al, ok.nd, ok.ce⟩
    refine ⟨fun i m σ' H' => m = its.length - i ∧ i ≤ its.length ∧ Mid ⟨F1, fr.H0, fr.B⟩ (I i) σ' H', ⟨its.length, by simp, Nat.zero_le _, Γ0, Θ1, F1, i0, up ok1 (Same.refl _), (env.mono s1).le l0⟩, ?_⟩
    rintro i m σ' H' ⟨rfl, hi, Γ2, Θ2, F2, hI, ok2, env2⟩
    obtain ⟨j1, j2⟩ := jok F2 H' ok2.f0 ok2.fh
    by_cases hlt : i < its.length
    · obtain ⟨jg, jy⟩ := j1 i its[i] (List.getElem?_eq_getElem hlt)
      refine .inr ⟨jg, Mid ⟨F1, fr.H0, fr.B⟩ (I (i + 1)), fun σ3 H3 p => ⟨its.length - (i + 1), by omega, rfl, hlt, p⟩, fun x H3 y => ?_⟩
      obtain ⟨F3, e1, e2, e3, e4, e5⟩ := jy x H3 y
      have ok3 := ok2.grow e2 e1 e3 e4
      obtain ⟨vs, Γ4, tg, kn⟩ := hs _ le i _ Γ2 Θ2 (List.getElem?_eq_getElem hlt) hI
      exact tg σ' F3 H3 x ok3.fh (env2.mono e1) e5 _ fun σ4 env4 _ => kn σ4 F3 H3 ok3 env4
    · have e : i = its.length := by omega
      subst e
      exact .inl ⟨j2, hd Γ2 Θ2 hI σ' F2 H' (ok2.le le) env2⟩
def wipeG (Γ : Gam) : List Nat → Gam
  | [] => Γ
  | v :: vs => (wipeG Γ vs).set v none
theorem EnvF.wipe {σ : L2.St} (h : EnvF Γ σ F) : ∀ vs, EnvF (wipeG Γ vs) (L2.wipe σ vs) F
  | [] => h
  | v :: vs => (EnvF.wipe h vs).drop
theorem wipe_get (σ : L2.St) (j : Nat) : ∀ vs : List Nat, (L2.wipe σ vs)[j]? = if j ∈ vs ∧ j < σ.length then some none else σ[j]?
  | [] => by simp [L2.wipe]
  | v :: vs => by
    unfold L2.wipe
    rw [List.getElem?_set, wipe_get σ j vs, wipe_length]
    by_cases h : v = j
    · subst h
      by_cases h2 : v < σ.length
      · rw [if_pos rfl, if_pos h2, if_pos ⟨List.mem_cons_self .., h2⟩]
      · rw [if_pos rfl, if_neg h2, if_neg (fun q => h2 q.2), List.getElem?_eq_none (by omega)]
    · rw [if_neg h]
      by_cases h2 : j ∈ vs ∧ j < σ.length
      · rw [if_pos h2, if_pos ⟨List.mem_cons_of_mem _ h2.1, h2.2⟩]
      · rw [if_neg h2, if_neg (fun q => h2 ⟨(List.mem_cons.mp q.1).resolve_left (fun e => h e.symm), q.2⟩)]
theorem wipe_idem (σ : L2.St) (vs : List Nat) : L2.wipe (L2.wipe σ vs) vs = L2.wipe σ vs := by
  apply List.ext_getElem?
  intro j
  rw [wipe_get, wipe_length, wipe_get]
  split <;> rfl
theorem wt_yes {K : Bool → List Cel → Prop} (k : K true Θ) : Wt fr Γ Θ tYes K := fun σ F H ok env Q q => q true Θ k F H (Same.refl F) ok
end
end L2
set_option Elab.async false
set_option linter.all false
set_option maxRecDepth 100000
set_option maxHeartbeats 4000000
namespace L2
open PySem PySem.Spec PyProof.Rows PySem.HErr
/-- an error: its class, its fields -/
structure Er where
  C : Addr
  fs : List (Str × Vp)
def FsOk (F : Hp) (fs : List (Str × Vp)) (us : List (Str × V)) : Prop := Paired (fun (x : Str × Vp) (y : Str × V) => x.1 = y.1 ∧ x.2.p F y.2) fs us
theorem FsOk.mono {F F' : Hp} {fs : List (Str × Vp)} {us : List (Str × V)} (h : FsOk F fs us) (e : Same F F') : FsOk F' fs us := Paired.imp2 (fun x _ ⟨h1, h2⟩ => ⟨h1, x.2.mono e h2⟩) h
theorem FsOk.look {F : Hp} {f : Str} {p : Vp} : ∀ {fs : List (Str × Vp)} {us : List (Str × V)}, FsOk F fs us → fs.lookup f = some p → ∃ v, us.lookup f = some v ∧ p.p F v
  | _, _, .nil, h => by cases h
  | (a, q) :: fs, (b, u) :: us, .cons ⟨h1, h2⟩ r, h => by
    have h1 : a = b := h1
    subst h1
    rw [List.lookup_cons] at h ⊢
    cases e : (f == a) with
    | true =>
      rw [e] at h
      cases h
      exact ⟨u, rfl, h2⟩
    | false =>
      rw [e] at h
      exact FsOk.look r h
def Kr (fr : Fr) (Γ : Gam) (Θ : List Cel) (W : WX) (e : Er) : Prop := ∀ σ F H, OkF fr Θ F H → EnvF Γ σ F → ∀ d us, F d = some (.xd us) → FsOk F e.fs us → W (.ref e.C) (some d) σ H
/-- what a def raises -/
def Rse (fr : Fr) (E : XK) (err : Er → Prop) : Prop := ∀ e, err e → ∀ Θ F H d us, OkF fr Θ F H → F d = some (.xd us) → FsOk F e.fs us → E (.ref e.C) (some d) H
/-- what a def returns -/
def Ret (fr : Fr) (Q : VK) (out : Vp → Prop) : Prop := ∀ p, out p → ∀ Θ, Rt fr Θ Q p
def Sps (fr : Fr) (Γ : Gam) (Θ : List Cel) (sp : Sp) (E : L2.St → XK) (ps : List Vp) (K : Vp → List Cel → Prop) : Prop := ∀ σ F H vs, OkF fr Θ F H → EnvF Γ σ F → Paired (fun (p : Vp) v => p.p F v) ps vs → ∀ Q, Kq fr F K Q → sp vs H Q (E σ)
section
variable {fr : Fr} {Γ Γ' : Gam} {Θ : List Cel} {F F' H H' : Hp} {K : Vp → List Cel → Prop} {Q : VK}
theorem Rse.fine {fr' : Fr} {E : XK} {err : Er → Prop} (h : Rse fr E err) (l : FrLe fr fr') : Rse fr' E err := fun e he Θ F H d us ok => h e he Θ F H d us (ok.le l)
theorem Ret.fine {fr' : Fr} {out : Vp → Prop} (h : Ret fr Q out) (l : FrLe fr fr') : Ret fr' Q out := fun p hp Θ => (h p hp Θ).fine l
theorem we_callE {sp : Sp} {E : XK} {t : TA} (w : Wa fr Γ Θ t fun ps Θ1 => Sps fr Γ Θ1 sp (fun _ => E) ps K) : We fr Γ Θ (tCall sp [] E t) K := fun σ F H ok env Q q =>
  w σ F H ok env _ fun ps Θ1 k vs F1 H1 s1 ok1 hps => by
    rw [List.append_nil]
    exact k σ F1 H1 vs ok1 (env.mono s1) hps Q (q.mono s1)
theorem we_callS {sp : Sp} {E : L2.St → XK} {t : TA} (w : Wa fr Γ Θ t fun ps Θ1 => Sps fr Γ Θ1 sp E ps K) : We fr Γ Θ (tCallS sp E t) K := fun σ F H ok env Q q =>
  w σ F H ok env _ fun ps Θ1 k vs F1 H1 s1 ok1 hps => k σ F1 H1 vs ok1 (env.mono s1) hps Q (q.mono s1)
/-- an instance of the class at C, m no field of its own -/
def InsP (fr : Fr) (Θ : List Cel) (p : Vp) (C : Addr) (m : Str) : Prop := ∀ F H v, OkF fr Θ F H → p.p F v → ∃ a dx fs, v = .ref a ∧ H a = some (.ins C dx fs) ∧ fs.lookup m = none
theorem we_met {C : Addr} {m : Str} {sp : Sp} {E : L2.St → XK} {ta : TE} {t : TA} (w : We fr Γ Θ ta fun p Θ1 => InsP fr Θ1 p C m ∧ Wa fr Γ Θ1 t fun ps Θ2 => Sps fr Γ Θ2 sp E (p :: ps) K) : We fr Γ Θ (tMetD C m sp E ta t) K := fun σ F H ok env Q q =>
  w σ F H ok env _ fun p Θ1 ⟨ki, k⟩ v F1 H1 s1 ok1 hp => by
    obtain ⟨a, dx, fs, rfl, h2, h3⟩ := ki F1 H1 v ok1 hp
    exact ⟨a, dx, fs, rfl, h2, h3, k σ F1 H1 ok1 (env.mono s1) _ fun ps Θ2 k2 vs F2 H2 s2 ok2 hps => k2 σ F2 H2 _ ok2 ((env.mono s1).mono s2) (.cons (p.mono s2 hp) hps) Q (q.mono (s1.trans s2))⟩
def Post (F H : Hp) (Q : VK) (out : Vp → Prop) : Prop := ∀ p, out p → ∀ v F' H', Same H H' → Same F F' → Same F' H' → Newer F H F' → p.p F' v → Q v H'
def PErs (F H : Hp) (E : XK) (err : Er → Prop) : Prop := ∀ e, err e → ∀ F' H' d us, Same H H' → Same F F' → Same F' H' → Newer F H F' → F' d = some (.xd us) → FsOk F' e.fs us → E (.ref e.C) (some d) H'
abbrev Pre := List Vp → (Vp → Prop) → (Er → Prop) → Prop
def spA (pre : Pre) : Sp := fun vs H Q E => ∃ F ps out err, Same F H ∧ Paired (fun (p : Vp) v => p.p F v) ps vs ∧ pre ps out err ∧ Post F H Q out ∧ PErs F H E err
theorem sps_A {pre : Pre} {E : L2.St → XK} {ps : List Vp} {out : Vp → Prop} {err : Er → Prop} (hp : pre ps out err) (k : ∀ p, out p → K p Θ) (x : ∀ e, err e → Kr fr Γ Θ (fun cls d σ H => E σ cls d H) e) : Sps fr Γ Θ (spA pre) E ps K := fun σ F H vs ok env hps Q q =>
  ⟨F, ps, out, err, ok.fh, hps, hp, fun p ho v F' H' hh ff fh nw h => q p Θ (k p ho) v F' H' ff (ok.grow hh ff fh nw) h,
    fun e he F' H' d us hh ff fh nw hd hf => x e he σ F' H' (ok.grow hh ff fh nw) (env.mono ff) d us hd hf⟩
/-- nothing is raised -/
def noErr : Er → Prop := fun _ => False
theorem OkF.post (ok : OkF ⟨F, H, []⟩ Θ F' H') : Same H H' ∧ Same F F' ∧ Same F' H' ∧ Newer F H F' := ⟨fun a o h => ok.h0 a o (by simp) h, ok.f0, ok.fh, ok.nw⟩
theorem Post.ret {out : Vp → Prop} (h : Post F H Q out) : Ret ⟨F, H, []⟩ Q out := fun p hp Θ v F' H' ok hv => by
  obtain ⟨a, b, c, d⟩ := ok.post
  exact h p hp v F' H' a b c d hv
theorem PErs.rse {E : XK} {err : Er → Prop} (h : PErs F H E err) : Rse ⟨F, H, []⟩ E err := fun e he Θ F' H' d us ok hd hf => by
  obtain ⟨a, b, c, n⟩ := ok.post
  exact h e he F' H' d us a b c n hd hf
def envOf (N : List Str) (ps : List Vp) : Gam := ps.map some ++ List.replicate (N.length - ps.length) none
theorem env_start {N : List Str} {ps : List Vp} {vs : List V} (h : Paired (fun (p : Vp) v => p.p F v) ps vs) : EnvF (envOf N ps) (start N vs) F := by
  unfold envOf start
  rw [Paired.len h]
  refine Paired.app ?_ ?_
  · induction h with
    | nil => exact .nil
    | cons a _ ih => exact .cons (fun p hp => by cases hp; exact ⟨_, rfl, a⟩) ih
  · have : ∀ n : Nat, Paired (fun (e : Option Vp) (s : Option V) => ∀ p, e = some p → ∃ v, s = some v ∧ p.p F v) (List.replicate n none) (List.replicate n none) := fun n => by
      induction n with
      | zero => exact .nil
      | succ n ih => exact .cons (fun p hp => by cases hp) ih
    exact this _
end
section
variable {P : Program} {w : World} {K : PySem.W.Frag} {mg : Str → Option Value} {base : Heap} {x m qual : Str} {C : Addr} {st : Stmt} {N ps : List Str} {k : Nat} {pre : Pre}
theorem Src.okA (F : Src K mg x st ps) (S : FnScope N ps (defScope st)) (len : ∀ qs out err, pre qs out err → qs.length = ps.length)
    (hbody : ∀ (f : Addr) (cdv : Value) (A : Around) (outer : List Env) (s : Shared) (H : Hp) (E : XK) (qs : List Vp) (out : Vp → Prop) (err : Er → Prop), Room k (A.deeper (envOfC x (defScope st) s.heap.objs.size f cdv)) → pre qs out err →
      ∃ t, PSs (cxOf CX0 P w K mg base N x (defScope st) f cdv A outer s H E).nox (defBody st) t ∧ ∀ fr Q, Ret fr Q out → Kn fr (envOf N qs) [] (t { nx := fun _ H' => Q .non H', rt := Q })) : Def P w K mg base CX0 (k + 1) x ps (spA pre) := by
  refine F.ok S (fun vs H Q E h => ?_) (fun f cdv A outer s H vs Q E hr h => ?_)
  · obtain ⟨F, qs, out, err, _, h2, h3, _⟩ := h
    rw [← Paired.len h2]
    exact len _ _ _ h3
  · obtain ⟨F, qs, out, err, h1, h2, h3, h4, h5⟩ := h
    obtain ⟨t, ht, hk⟩ := hbody f cdv A outer s H E qs out err hr h3
    exact ⟨t, ht, hk _ Q h4.ret _ F H (OkF.start h1) (env_start h2)⟩
theorem Src.okAX (F : Src K mg x st ps) (S : FnScope N ps (defScope st)) (len : ∀ qs out err, pre qs out err → qs.length = ps.length)
    (hbody : ∀ (f : Addr) (cdv : Value) (A : Around) (outer : List Env) (s : Shared) (H : Hp) (E : XK) (qs : List Vp) (out : Vp → Prop) (err : Er → Prop), Room k (A.deeper (envOfC x (defScope st) s.heap.objs.size f cdv)) → pre qs out err →
      ∃ t, PSs (cxOf (L2.CX P w) P w K mg base N x (defScope st) f cdv A outer s H E) (defBody st) t ∧ ∀ fr Q, Ret fr Q out → Rse fr E err → Kn fr (envOf N qs) [] (t { nx := fun _ H' => Q .non H', rt := Q })) : Def P w K mg base (L2.CX P w) (k + 1) x ps (spA pre) := by
  refine F.okX S (fun vs H Q E h => ?_) (fun f cdv A outer s H vs Q E hr h => ?_)
  · obtain ⟨F, qs, out, err, _, h2, h3, _⟩ := h
    rw [← Paired.len h2]
    exact len _ _ _ h3
  · obtain ⟨F, qs, out, err, h1, h2, h3, h4, h5⟩ := h
    obtain ⟨t, ht, hk⟩ := hbody f cdv A outer s H E qs out err hr h3
    exact ⟨t, ht, hk _ Q h4.ret h5.rse _ F H (OkF.start h1) (env_start h2)⟩
theorem SrcM.okA (F : SrcM K C m qual st ps) (S : FnScope N ps (defScope st)) (len : ∀ qs out err, pre qs out err → qs.length = ps.length)
    (hbody : ∀ (f : Addr) (cdv : Value) (A : Around) (outer : List Env) (s : Shared) (H : Hp) (E : XK) (qs : List Vp) (out : Vp → Prop) (err : Er → Prop), Room k (A.deeper (envOfC qual (defScope st) s.heap.objs.size f cdv)) → pre qs out err →
      ∃ t, PSs (cxOf CX0 P w K mg base N qual (defScope st) f cdv A outer s H E).nox (defBody st) t ∧ ∀ fr Q, Ret fr Q out → Kn fr (envOf N qs) [] (t { nx := fun _ H' => Q .non H', rt := Q })) : DefM P w K mg base CX0 (k + 1) C m ps (spA pre) := by
  refine F.ok S (fun vs H Q E h => ?_) (fun f cdv A outer s H vs Q E hr h => ?_)
  · obtain ⟨F, qs, out, err, _, h2, h3, _⟩ := h
    rw [← Paired.len h2]
    exact len _ _ _ h3
  · obtain ⟨F, qs, out, err, h1, h2, h3, h4, h5⟩ := h
    obtain ⟨t, ht, hk⟩ := hbody f cdv A outer s H E qs out err hr h3
    exact ⟨t, ht, hk _ Q h4.ret _ F H (OkF.start h1) (env_start h2)⟩
theorem SrcM.okAX (F : SrcM K C m qual st ps) (S : FnScope N ps (defScope st)) (len : ∀ qs out err, pre qs out err → qs.length = ps.length)
    (hbody : ∀ (f : Addr) (cdv : Value) (A : Around) (outer : List Env) (s : Shared) (H : Hp) (E : XK) (qs : List Vp) (out : Vp → Prop) (err : Er → Prop), Room k (A.deeper (envOfC qual (defScope st) s.heap.objs.size f cdv)) → pre qs out err →
      ∃ t, PSs (cxOf (L2.CX P w) P w K mg base N qual (defScope st) f cdv A outer s H E) (defBody st) t ∧ ∀ fr Q, Ret fr Q out → Rse fr E err → Kn fr (envOf N qs) [] (t { nx := fun _ H' => Q .non H', rt := Q })) : DefM P w K mg base (L2.CX P w) (k + 1) C m ps (spA pre) := by
  refine F.okX S (fun vs H Q E h => ?_) (fun f cdv A outer s H vs Q E hr h => ?_)
  · obtain ⟨F, qs, out, err, _, h2, h3, _⟩ := h
    rw [← Paired.len h2]
    exact len _ _ _ h3
  · obtain ⟨F, qs, out, err, h1, h2, h3, h4, h5⟩ := h
    obtain ⟨t, ht, hk⟩ := hbody f cdv A outer s H E qs out err hr h3
    exact ⟨t, ht, hk _ Q h4.ret h5.rse _ F H (OkF.start h1) (env_start h2)⟩
end
section
variable {fr : Fr} {Γ Γ' : Gam} {Θ : List Cel} {F F' H H' : Hp} {K : Vp → List Cel → Prop} {Q : VK}
theorem kr_E {E : XK} {err : Er → Prop} {e : Er} (h : Rse fr E err) (he : err e) : Kr fr Γ Θ (fun cls d _ H => E cls d H) e := fun σ F H ok env d us hd hf => h e he Θ F H d us ok hd hf
theorem zip_ok {fs : List Str} {ps : List Vp} {vs : List V} (h : Paired (fun (p : Vp) v => p.p F v) ps vs) : ∀ {fs : List Str}, Paired (fun (x : Str × Vp) (y : Str × V) => x.1 = y.1 ∧ x.2.p F y.2) (fs.zip ps) (fs.zip vs) := fun {fs} => by
  induction h generalizing fs with
  | nil => rw [List.zip_nil_right, List.zip_nil_right]; exact .nil
  | cons a _ ih => cases fs with
    | nil => exact .nil
    | cons f fs => exact .cons ⟨rfl, a⟩ ih
theorem Paired.rev {α β : Type} {R : α → β → Prop} {l : List α} {m : List β} (h : Paired R l m) : Paired R l.reverse m.reverse := by
  induction h with
  | nil => exact .nil
  | cons a _ ih => rw [List.reverse_cons, List.reverse_cons]; exact PySem.Paired.snoc ih a
theorem kn_raise {tm : Bool} {C : Addr} {fs : List Str} {W : WX} {ta : TA} {D : Ends} (w : Wa fr Γ Θ ta fun ps Θ1 => ps.length = fs.length ∧ (tm = true → ∃ z r, ps = iz zS z :: r ∧ z.length ≤ 1000) ∧ Kr fr Γ Θ1 W ⟨C, (fs.zip ps).reverse⟩) : Kn fr Γ Θ (tRaiseE tm C fs W ta D) := fun σ F H ok env =>
  w σ F H ok env _ fun ps Θ1 ⟨hl, ht, k⟩ vs F1 H1 s1 ok1 hps => by
    refine ⟨by rw [← Paired.len hps]; exact hl, fun h => ?_, fun d nd => ?_⟩
    · obtain ⟨z, r, e, hz⟩ := ht h
      subst e
      cases hps with
      | cons a b => exact ⟨z, _, by rw [a.1], hz⟩
    · have s2 := ok1.sameF (o := .xd (fs.zip vs).reverse) nd
      exact k σ _ _ (ok1.new nd) ((env.mono s1).mono s2) d _ upd_same (Paired.rev (zip_ok (fs := fs) (ps_mono s2 hps)))
/-- the caught exception at a, its dict at d -/
def zExc (a d : Addr) (fs : List (Str × Vp)) : Vp := ⟨fun F v => v = .ref a ∧ ∃ us, F d = some (.xd us) ∧ FsOk F fs us, fun e ⟨h1, us, h2, h3⟩ => ⟨h1, us, e _ _ h2, h3.mono e⟩⟩
theorem kr_as {Kf : PySem.W.Frag} {c : Value} {i : Nat} {ts : Addr → Value → Option Addr → TS} {Wout : WX} {D : Ends} {e : Er} (hx : PySem.W.exmOne Kf (.ref e.C) c = some true)
    (k : ∀ a d, Kn fr (Γ.set i (some (zExc a d e.fs))) Θ (ts a (.ref e.C) (some d) { nx := fun σ' H' => D.nx (σ'.set i none) H', rt := D.rt, bk := fun σ' H' => D.bk (σ'.set i none) H', ct := fun σ' H' => D.ct (σ'.set i none) H' })) : Kr fr Γ Θ (wAs Kf c i ts Wout D) e := fun σ F H ok env d us hd hf =>
  ⟨true, hx, fun _ a ha => k a d _ F H ok (env.set (p := zExc a d e.fs) ⟨rfl, us, hd, hf⟩), fun q => Bool.noConfusion q⟩
theorem kn_suite {i : Nat} {P : L2.St → Hp → Prop} (k : Kn fr (Γ.set i none) Θ P) : Kn fr Γ Θ (fun σ' H' => P (σ'.set i none) H') := fun σ F H ok env => k _ F H ok env.drop
theorem we_xf {a d C : Addr} {f : Str} {te : TE} {fs : List (Str × Vp)} {q : Vp} (w : We fr Γ Θ te fun p Θ1 => p = zExc a d fs ∧ fs.lookup f = some q ∧ K q Θ1) : We fr Γ Θ (tXf a (.ref C) (some d) C f te) K := fun σ F H ok env Q k =>
  w σ F H ok env _ fun p Θ1 ⟨e, hl, kk⟩ v F1 H1 s1 ok1 hp => by
    subst e
    obtain ⟨h1, us, h2, h3⟩ := hp
    obtain ⟨u, h4, h5⟩ := h3.look hl
    exact ⟨h1, rfl, d, us, u, rfl, ok1.fh _ _ h2, h4, k q Θ1 kk u F1 H1 s1 ok1 h5⟩
def FldR (Kf : PySem.W.Frag) (f : Str) (p q : Vp) : Prop := ∀ F v, p.p F v → ∃ a C dx fs u, v = .ref a ∧ F a = some (.ins C dx fs) ∧ Cls Kf C ∧ NoAttr Kf C f ∧ fs.lookup f = some u ∧ q.p F u
/-- the field f of p is q -/
def FldP (fr : Fr) (Θ : List Cel) (Kf : PySem.W.Frag) (f : Str) (p q : Vp) : Prop := ∀ F H v, OkF fr Θ F H → p.p F v → ∃ a C dx fs u, v = .ref a ∧ H a = some (.ins C dx fs) ∧ Cls Kf C ∧ NoAttr Kf C f ∧ fs.lookup f = some u ∧ q.p F u
theorem FldR.p {Kf : PySem.W.Frag} {f : Str} {p q : Vp} (h : FldR Kf f p q) : FldP fr Θ Kf f p q := fun F H v ok hv => by
  obtain ⟨a, C, dx, fs, u, h1, h2, h3, h4, h5, h6⟩ := h F v hv
  exact ⟨a, C, dx, fs, u, h1, ok.fh _ _ h2, h3, h4, h5, h6⟩
theorem we_fld {Kf : PySem.W.Frag} {f : Str} {ta : TE} (w : We fr Γ Θ ta fun p Θ1 => ∃ q, FldP fr Θ1 Kf f p q ∧ K q Θ1) : We fr Γ Θ (tFld Kf ta f) K := fun σ F H ok env Q k =>
  w σ F H ok env _ fun p Θ1 ⟨q, hf, kk⟩ v F1 H1 s1 ok1 hp => by
    obtain ⟨a, C, dx, fs, u, h1, h2, h3, h4, h5, h6⟩ := hf F1 H1 v ok1 hp
    exact ⟨a, C, dx, fs, u, h1, h2, h3, h4, h5, k q Θ1 kk u F1 H1 s1 ok1 h6⟩
class Dat {α : Type} (r : Rep α) where
  enc : α → PyData
  dep : Nat
  dp : ∀ {Kf : PySem.W.Frag} {F : Hp} {v : V} {x : α}, r.p F v x → Dp Kf F v (enc x)
  ok : ∀ {F : Hp} {v : V} {x : α}, r.p F v x → nb (enc x) = true
  dl : ∀ x : α, (enc x).depth ≤ dep
  inj : ∀ {x y : α}, enc x = enc y → x = y
instance : Dat zI := ⟨PyData.int, 0, fun h => by cases (show _ = V.int _ from h); exact .int _, fun _ => rfl, fun _ => by simp [PyData.depth], fun h => PyData.int.inj h⟩
instance : Dat zS := ⟨PyData.str, 0, fun h => by cases h.1; exact .str _, fun h => h.2.ok, fun _ => by simp [PyData.depth], fun h => PyData.str.inj h⟩
theorem map_inj' {α β : Type} {f : α → β} (hf : ∀ x y, f x = f y → x = y) : ∀ {l m : List α}, l.map f = m.map f → l = m
  | [], [], _ => rfl
  | [], _ :: _, h => by cases h
  | _ :: _, [], h => by cases h
  | a :: l, b :: m, h => by
    rw [List.map_cons, List.map_cons, List.cons.injEq] at h
    rw [hf _ _ h.1, map_inj' hf h.2]
theorem dat_all {α : Type} {r : Rep α} [d : Dat r] {Kf : PySem.W.Frag} {vs : List V} {xs : List α} (h : PVs r F vs xs) : DpAll Kf F vs (xs.map d.enc) := by
  induction h with
  | nil => exact .nil
  | cons a _ ih => exact .cons (d.dp a) ih
theorem dat_nb {α : Type} {r : Rep α} [d : Dat r] {vs : List V} {xs : List α} (h : PVs r F vs xs) : nbAll (xs.map d.enc) = true := by
  induction h with
  | nil => rfl
  | cons a _ ih => show (nb _ && nbAll _) = true; rw [d.ok a, ih]; rfl
theorem dat_dep {α : Type} {r : Rep α} [d : Dat r] (xs : List α) : PyData.depthAll (xs.map d.enc) ≤ d.dep := depthAll_le fun y hy => by
  obtain ⟨x, _, rfl⟩ := List.mem_map.mp hy
  exact d.dl x
instance {α : Type} {r : Rep α} [d : Dat r] : Dat (zL r) := ⟨fun xs => .list (xs.map d.enc), d.dep + 1, fun ⟨a, vs, h1, h2, h3⟩ => by subst h1; exact .lst (SqL.of h2) (dat_all h3), fun ⟨a, vs, h1, h2, h3⟩ => dat_nb h3, fun xs => by
  have := dat_dep (r := r) xs
  simp only [PyData.depth]
  omega, fun h => map_inj' (fun _ _ => d.inj) (PyData.list.inj h)⟩
instance {α : Type} [TNar α] {r : Rep α} [d : Dat r] : Dat (zT r) := ⟨fun xs => .tuple (xs.map d.enc), d.dep + 1, fun ⟨a, vs, h1, h2, h3⟩ => by subst h1; exact .tup (h2.sq (Same.refl _)) (dat_all h3), fun ⟨a, vs, h1, h2, h3⟩ => dat_nb h3, fun xs => by
  have := dat_dep (r := r) xs
  simp only [PyData.depth]
  omega, fun h => map_inj' (fun _ _ => d.inj) (PyData.tuple.inj h)⟩
instance {α β : Type} {r : Rep α} {s : Rep β} [d : Dat r] [e : Dat s] : Dat (z2 r s) := ⟨fun x => .tuple [d.enc x.1, e.enc x.2], d.dep + e.dep + 1, fun ⟨a, u, w, h1, h2, h3, h4⟩ => by subst h1; exact .tup (SqT.of h2) (.cons (d.dp h3) (.cons (e.dp h4) .nil)),
  fun ⟨a, u, w, h1, h2, h3, h4⟩ => by show (nb _ && (nb _ && true)) = true; rw [d.ok h3, e.ok h4]; rfl, fun x => by
    have h1 := d.dl x.1
    have h2 := e.dl x.2
    simp only [PyData.depth, PyData.depthAll]
    omega, fun {x y} h => by
    have h := PyData.tuple.inj h
    rw [List.cons.injEq, List.cons.injEq] at h
    exact Prod.ext (d.inj h.1) (e.inj h.2.1)⟩
instance {α β γ : Type} {r : Rep α} {s : Rep β} {t : Rep γ} [d : Dat r] [e : Dat s] [f : Dat t] : Dat (z3 r s t) := ⟨fun x => .tuple [d.enc x.1, e.enc x.2.1, f.enc x.2.2], d.dep + e.dep + f.dep + 1, fun ⟨a, u, w, z, h1, h2, h3, h4, h5⟩ => by subst h1; exact .tup (SqT.of h2) (.cons (d.dp h3) (.cons (e.dp h4) (.cons (f.dp h5) .nil))),
  fun ⟨a, u, w, z, h1, h2, h3, h4, h5⟩ => by show (nb _ && (nb _ && (nb _ && true))) = true; rw [d.ok h3, e.ok h4, f.ok h5]; rfl, fun x => by
    have h1 := d.dl x.1
    have h2 := e.dl x.2.1
    have h3 := f.dl x.2.2
    simp only [PyData.depth, PyData.depthAll]
    omega, fun {x y} h => by
    have h := PyData.tuple.inj h
    rw [List.cons.injEq, List.cons.injEq, List.cons.injEq] at h
    exact Prod.ext (d.inj h.1) (Prod.ext (e.inj h.2.1) (f.inj h.2.2.1))⟩
theorem dat_eqv {α : Type} [DecidableEq α] {r : Rep α} [d : Dat r] {v w : V} {x y : α} (hv : r.p F v x) (hw : r.p F w y) : PyData.eqv (d.enc x) (d.enc y) = decide (x = y) := by
  have h := eqv_nb (d.enc x) (d.enc y) (d.ok hv) (d.ok hw)
  by_cases e : x = y
  · rw [decide_eq_true e, h, e]
  · rw [decide_eq_false e]
    cases q : PyData.eqv (d.enc x) (d.enc y) with
    | false => rfl
    | true => exact absurd (d.inj (h.mp q)) e
theorem Dp.up {Kf : PySem.W.Frag} {v : V} {d : PyData} (h : Dp Kf F v d) (e : Same F H) : Dp Kf H v d := Dp.keep e d v h
theorem ops_eqD {Kf : PySem.W.Frag} {α : Type} [DecidableEq α] {r : Rep α} [d : Dat r] {x y : α} (hd : d.dep ≤ 64) (k : K (iz zB (decide (x = y))) Θ) : Ops fr Θ (rEqD Kf) (iz r x) (iz r y) K := fun F H v w ok hv hw Q q => by
  refine ⟨d.enc x, d.enc y, (d.dp hv).up ok.fh, (d.dp hw).up ok.fh, shaped_of (d.ok hv) (Nat.le_trans (d.dl x) hd), shaped_of (d.ok hw) (Nat.le_trans (d.dl y) hd), ?_⟩
  rw [dat_eqv (r := r) hv hw]
  exact q.go k ok rfl
theorem ops_neD {Kf : PySem.W.Frag} {α : Type} [DecidableEq α] {r : Rep α} [d : Dat r] {x y : α} (hd : d.dep ≤ 64) (k : K (iz zB (!decide (x = y))) Θ) : Ops fr Θ (rNeD Kf) (iz r x) (iz r y) K := fun F H v w ok hv hw Q q => by
  refine ⟨d.enc x, d.enc y, (d.dp hv).up ok.fh, (d.dp hw).up ok.fh, shaped_of (d.ok hv) (Nat.le_trans (d.dl x) hd), shaped_of (d.ok hw) (Nat.le_trans (d.dl y) hd), ?_⟩
  rw [dat_eqv (r := r) hv hw]
  exact q.go k ok rfl
end
end L2
set_option Elab.async false
set_option linter.all false
set_option maxRecDepth 100000
set_option maxHeartbeats 4000000
namespace L2
open PySem PySem.Spec PyProof.Rows PySem.HErr
def KVs {α : Type} (r : Rep α) (F : Hp) (kvs : List (Key × V)) (rows : List (Str × α)) : Prop := Paired (fun (kv : Key × V) (x : Str × α) => kv.1 = Sum.inr x.1 ∧ r.p F kv.2 x.2) kvs rows
theorem KVs.mono {α : Type} {r : Rep α} {F F' : Hp} {kvs : List (Key × V)} {rows : List (Str × α)} (h : KVs r F kvs rows) (e : Same F F') : KVs r F' kvs rows := Paired.imp2 (fun _ _ ⟨h1, h2⟩ => ⟨h1, r.mono e h2⟩) h
/-- a dict from texts, frozen -/
def zD {α : Type} (r : Rep α) : Rep (List (Str × α)) := ⟨fun F v rows => ∃ a kvs, v = .ref a ∧ F a = some (.dK kvs) ∧ KVs r F kvs rows, fun e ⟨a, kvs, h1, h2, h3⟩ => ⟨a, kvs, h1, e _ _ h2, h3.mono e⟩⟩
/-- the value by a key -/
def getR {α : Type} (rows : List (Str × α)) (n : Str) : Option α := (rows.find? fun x => decide (x.1 = n)).map (·.2)
section
variable {fr : Fr} {Γ Γ' : Gam} {Θ : List Cel} {F F' H H' : Hp} {K : Vp → List Cel → Prop} {Q : VK}
theorem KVs.val {α : Type} {r : Rep α} {n : Str} : ∀ {kvs : List (Key × V)} {rows : List (Str × α)}, KVs r F kvs rows → (∀ x, getR rows n = some x → ∃ u, valV kvs (Sum.inr n) = some u ∧ r.p F u x) ∧ (getR rows n = none → valV kvs (Sum.inr n) = none)
  | _, _, .nil => ⟨(fun x h => by cases h), fun _ => rfl⟩
  | kv :: kvs, (a, y) :: rows, .cons ⟨h1, h2⟩ hr => by
    have h1 : kv.1 = Sum.inr a := h1
    obtain ⟨ih1, ih2⟩ := KVs.val (n := n) hr
    by_cases e : a = n
    · subst e
      have e2 : getR ((a, y) :: rows) a = some y := by unfold getR; simp
      refine ⟨fun x hx => ?_, fun hx => ?_⟩
      · rw [e2] at hx
        cases hx
        exact ⟨kv.2, by rw [valV_pos h1], h2⟩
      · rw [e2] at hx
        cases hx
    · have e2 : getR ((a, y) :: rows) n = getR rows n := by unfold getR; simp [e]
      have hk : ¬ kv.1 = Sum.inr n := fun q => by rw [h1] at q; exact e (Sum.inr.inj q)
      rw [e2, valV_neg hk]
      exact ⟨ih1, ih2⟩
/-- a dict to be read -/
def DicP {α : Type} (fr : Fr) (Θ : List Cel) (p : Vp) (r : Rep α) (rows : List (Str × α)) : Prop := ∀ F H v, OkF fr Θ F H → p.p F v → ∃ a kvs, v = .ref a ∧ H a = some (.dK kvs) ∧ KVs r F kvs rows
theorem dic_D {α : Type} {r : Rep α} {rows : List (Str × α)} : DicP fr Θ (iz (zD r) rows) r rows := fun F H v ok ⟨a, kvs, h1, h2, h3⟩ => ⟨a, kvs, h1, ok.fh _ _ h2, h3⟩
theorem we_dget {td ty : TE} (w : We fr Γ Θ td fun p Θ1 => We fr Γ Θ1 ty fun q Θ2 => ∃ (α : Type) (r : Rep α) (rows : List (Str × α)) (n : Str) (x : α), DicP fr Θ2 p r rows ∧ q = iz zS n ∧ getR rows n = some x ∧ K (iz r x) Θ2) : We fr Γ Θ (tDGet td ty) K := fun σ F H ok env Q q =>
  w σ F H ok env _ fun p Θ1 k v F1 H1 s1 ok1 hp => k σ F1 H1 ok1 (env.mono s1) _ fun p2 Θ2 ⟨α, r, rows, n, x, hd, e, hx, kk⟩ v2 F2 H2 s2 ok2 hp2 => by
    subst e
    obtain ⟨a, kvs, h1, h2, h3⟩ := hd F2 H2 v ok2 (p.mono s2 hp)
    obtain ⟨u, hu, hr⟩ := h3.val.1 x hx
    exact ⟨a, u, h1, .inl ⟨kvs, Sum.inr n, .inl h2, hp2.1, hu.symm⟩, q _ _ kk u F2 H2 (s1.trans s2) ok2 hr⟩
theorem opt_some {α : Type} {r : Rep α} {rows : List (Str × α)} {kvs : List (Key × V)} {n : Str} (h3 : KVs r F kvs rows) : (valV kvs (Sum.inr n)).isSome = (getR rows n).isSome := by
  cases e : getR rows n with
  | none => rw [h3.val.2 e]; rfl
  | some x =>
    obtain ⟨u, hu, _⟩ := h3.val.1 x e
    rw [hu]
    rfl
theorem we_din {td ty : TE} (w : We fr Γ Θ ty fun q Θ1 => We fr Γ Θ1 td fun p Θ2 => ∃ (α : Type) (r : Rep α) (rows : List (Str × α)) (n : Str), DicP fr Θ2 p r rows ∧ q = iz zS n ∧ K (iz zB (getR rows n).isSome) Θ2) : We fr Γ Θ (tDIn ty td) K := fun σ F H ok env Q q =>
  w σ F H ok env _ fun p Θ1 k v F1 H1 s1 ok1 hp => k σ F1 H1 ok1 (env.mono s1) _ fun p2 Θ2 ⟨α, r, rows, n, hd, e, kk⟩ v2 F2 H2 s2 ok2 hp2 => by
    subst e
    obtain ⟨a, kvs, h1, h2, h3⟩ := hd F2 H2 v2 ok2 hp2
    refine ⟨a, _, h1, .inl ⟨kvs, Sum.inr n, .inl h2, hp.1, rfl⟩, q _ _ kk _ F2 H2 (s1.trans s2) ok2 ?_⟩
    show _ = V.bl _
    rw [opt_some h3]
theorem we_dnin {td ty : TE} (w : We fr Γ Θ ty fun q Θ1 => We fr Γ Θ1 td fun p Θ2 => ∃ (α : Type) (r : Rep α) (rows : List (Str × α)) (n : Str), DicP fr Θ2 p r rows ∧ q = iz zS n ∧ K (iz zB (!(getR rows n).isSome)) Θ2) : We fr Γ Θ (tDNotIn ty td) K := fun σ F H ok env Q q =>
  w σ F H ok env _ fun p Θ1 k v F1 H1 s1 ok1 hp => k σ F1 H1 ok1 (env.mono s1) _ fun p2 Θ2 ⟨α, r, rows, n, hd, e, kk⟩ v2 F2 H2 s2 ok2 hp2 => by
    subst e
    obtain ⟨a, kvs, h1, h2, h3⟩ := hd F2 H2 v2 ok2 hp2
    refine ⟨a, _, h1, .inl ⟨kvs, Sum.inr n, .inl h2, hp.1, rfl⟩, q _ _ kk _ F2 H2 (s1.trans s2) ok2 ?_⟩
    show _ = V.bl _
    rw [opt_some h3]
def putR {α : Type} (rows : List (Str × α)) (n : Str) (x : α) : List (Str × α) := if n ∈ rows.map (·.1) then rows.map fun y => if y.1 = n then (y.1, x) else y else rows ++ [(n, x)]
theorem KVs.put {α : Type} {r : Rep α} {kvs : List (Key × V)} {rows : List (Str × α)} {n : Str} {x : α} {u : V} (h : KVs r F kvs rows) (hu : r.p F u x) : KVs r F (putK kvs (Sum.inr n) u) (putR rows n x) := by
  have hk : (kvs.any fun kv => decide (kv.1 = Sum.inr n)) = decide (n ∈ rows.map (·.1)) := by
    induction h with
    | nil => rfl
    | cons a b ih =>
      rename_i kv y kvs rows
      rw [List.any_cons, ih, a.1, List.map_cons]
      by_cases e : y.1 = n
      · rw [decide_eq_true (by rw [e]), Bool.true_or, decide_eq_true (by rw [e]; exact List.mem_cons_self ..)]
      · rw [decide_eq_false (fun q => e (Sum.inr.inj q)), Bool.false_or]
        by_cases e2 : n ∈ rows.map (·.1)
        · rw [decide_eq_true e2, decide_eq_true (List.mem_cons_of_mem _ e2)]
        · rw [decide_eq_false e2, decide_eq_false fun q => (List.mem_cons.mp q).elim (fun q => e q.symm) e2]
  unfold putK putR
  by_cases e : n ∈ rows.map (·.1)
  · rw [if_pos e, if_pos (by rw [hk]; exact decide_eq_true e)]
    clear hk e
    induction h with
    | nil => exact .nil
    | cons a b ih =>
      refine .cons ?_ ih
      rename_i kv y kvs rows
      dsimp only
      by_cases e : y.1 = n
      · rw [if_pos e, if_pos (by rw [a.1, e])]
        exact ⟨a.1, hu⟩
      · rw [if_neg e, if_neg (fun q => e (Sum.inr.inj (a.1.symm.trans q)))]
        exact a
  · rw [if_neg e, if_neg (by rw [hk]; simpa using e)]
    exact PySem.Paired.snoc h ⟨rfl, hu⟩
end
structure PlanOk (d : PlanD) : Prop where
  pa : ∀ y ∈ d.places, Wd y
  pn : d.places.Nodup
  bl : d.begin.length = d.places.length
  bn : ∀ n ∈ d.begin, 0 ≤ n ∧ n ≤ 99
  st : ∀ r ∈ d.steps, Wd r.1 ∧ r.2.1 ≠ [] ∧ inOrd d.places r.2.1 = r.2.1 ∧ inOrd d.places r.2.2 = r.2.2
  sn : d.names.Nodup
  p12 : d.places.length ≤ 12
  s16 : d.steps.length ≤ 16
theorem inOrd_sub {ps ns : List Str} {y : Str} (h : y ∈ inOrd ps ns) : y ∈ ps ∧ y ∈ ns := by
  unfold inOrd at h
  obtain ⟨h1, h2⟩ := List.mem_filter.mp h
  exact ⟨h1, of_decide_eq_true h2⟩
theorem PlanOk.tk {d : PlanD} (h : PlanOk d) {r : SRow} (hr : r ∈ d.steps) {y : Str} (hy : y ∈ r.2.1) : y ∈ d.places := by
  rw [← (h.st r hr).2.2.1] at hy
  exact (inOrd_sub hy).1
theorem PlanOk.gv {d : PlanD} (h : PlanOk d) {r : SRow} (hr : r ∈ d.steps) {y : Str} (hy : y ∈ r.2.2) : y ∈ d.places := by
  rw [← (h.st r hr).2.2.2] at hy
  exact (inOrd_sub hy).1
def zPlan (C : Addr) : Rep PlanD := ⟨fun F v d => ∃ x, v = .ref x ∧ PlanAt F C x d ∧ PlanOk d, fun e ⟨x, h1, h2, h3⟩ => ⟨x, h1, h2.keep e, h3⟩⟩
def PlanD.tk (d : PlanD) : List (Str × List Str) := d.steps.map fun s => (s.1, s.2.1)
def PlanD.gv (d : PlanD) : List (Str × List Str) := d.steps.map fun s => (s.1, s.2.2)
section
variable {fr : Fr} {Γ Γ' : Gam} {Θ : List Cel} {F F' H H' : Hp} {K : PySem.W.Frag} {C : Addr} {d : PlanD}
theorem strs_pvs {ws : List Str} (h : ∀ y ∈ ws, Asc y) : PVs zS F (ws.map V.str) ws := by
  induction ws with
  | nil => exact .nil
  | cons a ws ih => exact .cons ⟨rfl, h a (List.mem_cons_self ..)⟩ (ih fun y hy => h y (List.mem_cons_of_mem _ hy))
theorem ints_pvs {ws : List Int} : PVs zI F (ws.map V.int) ws := by
  induction ws with
  | nil => exact .nil
  | cons a ws ih => exact .cons rfl ih
theorem tab_kvs : ∀ {kvs : List (Key × V)} {rows : List (Str × List Str)}, TabAt F kvs rows → (∀ r ∈ rows, ∀ y ∈ r.2, Asc y) → KVs (zT zS) F kvs rows
  | _, _, .nil, _ => .nil
  | _, _, .cons ⟨h1, t, h2, h3⟩ r, h => .cons ⟨h1, t, _, h2, .inl h3, strs_pvs (h _ (List.mem_cons_self ..))⟩ (tab_kvs r fun r' hr => h r' (List.mem_cons_of_mem _ hr))
/-- the class Plan, as the top left it -/
structure PlanK (K : PySem.W.Frag) (C : Addr) : Prop where
  cl : Cls K C
  nP : NoAttr K C "places"
  nB : NoAttr K C "begin"
  nT : NoAttr K C "taken"
  nG : NoAttr K C "given"
  nS : NoAttr K C "steps"
theorem fld_places (T : PlanK K C) : FldR K "places" (iz (zPlan C) d) (iz (zT zS) d.places) := fun F v ⟨x, h1, h2, h3⟩ => by
  obtain ⟨dx, tp, tb, td, tg, ts, kt, kg, p1, p2, p3, p4, p5, p6, p7, p8⟩ := h2.ex
  exact ⟨x, C, dx, _, _, h1, p1, T.cl, T.nP, rfl, tp, _, rfl, p2.tb, strs_pvs fun y hy => (h3.pa y hy).asc⟩
theorem fld_begin (T : PlanK K C) : FldR K "begin" (iz (zPlan C) d) (iz (zT zI) d.begin) := fun F v ⟨x, h1, h2, h3⟩ => by
  obtain ⟨dx, tp, tb, td, tg, ts, kt, kg, p1, p2, p3, p4, p5, p6, p7, p8⟩ := h2.ex
  exact ⟨x, C, dx, _, _, h1, p1, T.cl, T.nB, rfl, tb, _, rfl, .inl p3, ints_pvs⟩
theorem fld_steps (T : PlanK K C) : FldR K "steps" (iz (zPlan C) d) (iz (zT zS) d.names) := fun F v ⟨x, h1, h2, h3⟩ => by
  obtain ⟨dx, tp, tb, td, tg, ts, kt, kg, p1, p2, p3, p4, p5, p6, p7, p8⟩ := h2.ex
  refine ⟨x, C, dx, _, _, h1, p1, T.cl, T.nS, rfl, ts, _, rfl, p6, strs_pvs fun y hy => ?_⟩
  obtain ⟨r, hr, rfl⟩ := List.mem_map.mp hy
  exact (h3.st r hr).1.asc
theorem fld_taken (T : PlanK K C) : FldR K "taken" (iz (zPlan C) d) (iz (zD (zT zS)) d.tk) := fun F v ⟨x, h1, h2, h3⟩ => by
  obtain ⟨dx, tp, tb, td, tg, ts, kt, kg, p1, p2, p3, p4, p5, p6, p7, p8⟩ := h2.ex
  refine ⟨x, C, dx, _, _, h1, p1, T.cl, T.nT, rfl, td, kt, rfl, p4, tab_kvs p7 fun r hr y hy => ?_⟩
  obtain ⟨s, hs, rfl⟩ := List.mem_map.mp hr
  exact (h3.pa y (h3.tk hs hy)).asc
theorem fld_given (T : PlanK K C) : FldR K "given" (iz (zPlan C) d) (iz (zD (zT zS)) d.gv) := fun F v ⟨x, h1, h2, h3⟩ => by
  obtain ⟨dx, tp, tb, td, tg, ts, kt, kg, p1, p2, p3, p4, p5, p6, p7, p8⟩ := h2.ex
  refine ⟨x, C, dx, _, _, h1, p1, T.cl, T.nG, rfl, tg, kg, rfl, p5, tab_kvs p8 fun r hr y hy => ?_⟩
  obtain ⟨s, hs, rfl⟩ := List.mem_map.mp hr
  exact (h3.pa y (h3.gv hs hy)).asc
/-- a plan is an instance; none of these is a field of it -/
theorem ins_plan {m : Str} (hm : ([("places", (0 : Nat)), ("begin", 0), ("taken", 0), ("given", 0), ("steps", 0)] : List (Str × Nat)).lookup m = none) : InsP fr Θ (iz (zPlan C) d) C m := fun F H v ok ⟨x, h1, h2, h3⟩ => by
  obtain ⟨dx, tp, tb, td, tg, ts, kt, kg, p1, p2, p3, p4, p5, p6, p7, p8⟩ := h2.ex
  refine ⟨x, dx, _, h1, ok.fh _ _ p1, ?_⟩
  simp only [List.lookup_cons] at hm ⊢
  revert hm
  cases (m == ("places" : Str)) <;> cases (m == ("begin" : Str)) <;> cases (m == ("taken" : Str)) <;> cases (m == ("given" : Str)) <;> cases (m == ("steps" : Str)) <;> simp
/-- all that is new is frozen -/
def newF (F H H' : Hp) : Hp := fun a => match H a with
  | none => H' a
  | some _ => F a
theorem newF_of (fh : Same F H) (hh : Same H H') : Same F (newF F H H') ∧ Same (newF F H H') H' ∧ Newer F H (newF F H H') := by
  refine ⟨fun a o h => ?_, fun a o h => ?_, fun a o h => ?_⟩
  · unfold newF
    rw [fh a o h]
    exact h
  · unfold newF at h
    cases q : H a with
    | none => rw [q] at h; exact h
    | some u => rw [q] at h; exact hh _ _ (fh _ _ h)
  · unfold newF at h
    cases q : H a with
    | none => exact .inr (.inl q)
    | some u => rw [q] at h; exact .inl ⟨o, h⟩
end
/-- the class Plan and its name -/
structure PlanC (K : PySem.W.Frag) (mg : Str → Option Value) (C : Addr) : Prop where
  cl : Cls K C
  gC : mg "Plan" = some (.ref C)
  nP : NoAttr K C "places"
  nB : NoAttr K C "begin"
  nT : NoAttr K C "taken"
  nG : NoAttr K C "given"
  nS : NoAttr K C "steps"
section
variable {K : PySem.W.Frag} {mg : Str → Option Value} {C : Addr} {fr : Fr} {Θ : List Cel} {d : PlanD}
theorem PlanC.k (T : PlanC K mg C) : PlanK K C := ⟨T.cl, T.nP, T.nB, T.nT, T.nG, T.nS⟩
theorem fldP_places (T : PlanC K mg C) : FldP fr Θ K "places" (iz (zPlan C) d) (iz (zT zS) d.places) := (fld_places T.k).p
theorem fldP_begin (T : PlanC K mg C) : FldP fr Θ K "begin" (iz (zPlan C) d) (iz (zT zI) d.begin) := (fld_begin T.k).p
theorem fldP_steps (T : PlanC K mg C) : FldP fr Θ K "steps" (iz (zPlan C) d) (iz (zT zS) d.names) := (fld_steps T.k).p
theorem fldP_taken (T : PlanC K mg C) : FldP fr Θ K "taken" (iz (zPlan C) d) (iz (zD (zT zS)) d.tk) := (fld_taken T.k).p
theorem fldP_given (T : PlanC K mg C) : FldP fr Θ K "given" (iz (zPlan C) d) (iz (zD (zT zS)) d.gv) := (fld_given T.k).p
end
theorem is_var {fr : Fr} {Γ : Gam} {Θ : List Cel} {K : Vp → List Cel → Prop} {i : Nat} (h : We fr Γ Θ (tVar i) K) : We fr Γ Θ (tVar i) K := h
theorem is_cS {fr : Fr} {Γ : Gam} {Θ : List Cel} {K : Vp → List Cel → Prop} {z : Str} (h : We fr Γ Θ (tC (.str z)) K) : We fr Γ Θ (tC (.str z)) K := h
theorem asc_of {z : Str} (h : (z.cps.toList.all fun c => decide (c < 128)) = true) : Asc z := fun c hc => of_decide_eq_true (List.all_eq_true.mp h c hc)
end L2
set_option Elab.async false
set_option linter.all false
set_option maxRecDepth 100000
set_option maxHeartbeats 4000000
namespace L2
open PySem PySem.Spec PyProof.Rows PySem.HErr
section
variable {fr : Fr} {Γ Γ' : Gam} {Θ : List Cel} {F F' H H' : Hp} {K : Vp → List Cel → Prop} {Q : VK}
theorem wipe_sub {σ σ' : L2.St} {vs us : List Nat} (h : L2.wipe σ' vs = L2.wipe σ vs) (hs : ∀ v ∈ vs, v ∈ us) : L2.wipe σ' us = L2.wipe σ us := by
  have hl : σ'.length = σ.length := by
    have := congrArg List.length h
    rw [wipe_length, wipe_length] at this
    exact this
  apply List.ext_getElem?
  intro j
  have hj : (L2.wipe σ' vs)[j]? = (L2.wipe σ vs)[j]? := by rw [h]
  rw [wipe_get, wipe_get] at hj ⊢
  rw [hl] at hj ⊢
  by_cases h1 : j ∈ us ∧ j < σ.length
  · rw [if_pos h1, if_pos h1]
  · rw [if_neg h1, if_neg h1]
    have h2 : ¬ (j ∈ vs ∧ j < σ.length) := fun q => h1 ⟨hs j q.1, q.2⟩
    rw [if_neg h2, if_neg h2] at hj
    exact hj
theorem TgR.sub {g : TG} {vs us : List Nat} {p : Vp} (h : TgR g vs p Γ Γ') (hs : ∀ v ∈ vs, v ∈ us) : TgR g us p Γ Γ' := fun σ F H v fh env hp Q q => h σ F H v fh env hp Q fun σ' e hw => q σ' e (wipe_sub hw hs)
end
end L2
set_option Elab.async false
set_option linter.all false
set_option maxRecDepth 100000
set_option maxHeartbeats 4000000
namespace L2
open PySem PySem.Spec PyProof.Rows PySem.HErr
section
variable {fr : Fr} {Γ Γ' : Gam} {Θ Θ' : List Cel} {F F' H H' : Hp} {K : Vp → List Cel → Prop} {Q : VK}
theorem OkF.perm (k : OkF fr Θ F H) (p : Θ.Perm Θ') : OkF fr Θ' F H := ⟨k.fh, k.f0, k.nw, k.h0, k.al, (p.map Cel.a).nodup_iff.mp k.nd, fun c hc => k.ce c (p.mem_iff.mpr hc)⟩
theorem Kn.perm {P : L2.St → Hp → Prop} (k : Kn fr Γ Θ' P) (p : Θ.Perm Θ') : Kn fr Γ Θ P := fun σ F H ok env => k σ F H (ok.perm p) env
end
end L2
set_option Elab.async false
set_option linter.all false
set_option maxRecDepth 100000
set_option maxHeartbeats 4000000
namespace L2
open PySem PySem.Spec PyProof.Rows PySem.HErr
/-- an instance of one's own -/
def cI (a C dx : Addr) (fs : List (Str × Vp)) : Cel := ⟨a, true, fun F o => ∃ us, o = .ins C dx us ∧ FsOk F fs us, fun e ⟨us, h1, h2⟩ => ⟨us, h1, h2.mono e⟩, fun h e => by subst e; simp at h⟩
def putP (f : Str) (p : Vp) : List (Str × Vp) → List (Str × Vp)
  | [] => [(f, p)]
  | (g, q) :: r => if g = f then (g, p) :: r else (g, q) :: putP f p r
section
variable {fr : Fr} {Γ Γ' : Gam} {Θ Θ' : List Cel} {F F' H H' : Hp} {K : Vp → List Cel → Prop} {Q : VK}
theorem FsOk.put {f : Str} {p : Vp} {v : V} (hp : p.p F v) : ∀ {fs : List (Str × Vp)} {us : List (Str × V)}, FsOk F fs us → FsOk F (putP f p fs) (putF f v us)
  | _, _, .nil => .cons ⟨rfl, hp⟩ .nil
  | (g, q) :: fs, (g', u) :: us, .cons ⟨h1, h2⟩ r => by
    have h1 : g = g' := h1
    subst h1
    unfold putP putF
    by_cases e : g = f
    · rw [if_pos e, if_pos e]
      exact .cons ⟨rfl, hp⟩ r
    · rw [if_neg e, if_neg e]
      exact .cons ⟨rfl, h2⟩ (FsOk.put hp r)
/-- self.f = e -/
theorem kn_fldPut {Kf : PySem.W.Frag} {f : Str} {ta tv : TE} {D : Ends} (w : We fr Γ Θ tv fun p Θ1 => We fr Γ Θ1 ta fun q Θ2 => ∃ a C dx fs j, q = zAt a ∧ Θ2[j]? = some (cI a C dx fs) ∧ Cls Kf C ∧ NoAttr Kf C f ∧ fs.length < 1000 ∧ Kn fr Γ (Θ2.set j (cI a C dx (putP f p fs))) D.nx) : Kn fr Γ Θ (sFld Kf ta tv f D) := fun σ F H ok env =>
  w σ F H ok env _ fun p Θ1 k v F1 H1 s1 ok1 hp => k σ F1 H1 ok1 (env.mono s1) _ fun p2 Θ2 ⟨a, C, dx, fs, j, e, hj, hc, hn, hl, kk⟩ v2 F2 H2 s2 ok2 hp2 => by
    subst e
    obtain ⟨_, ⟨o, h2, us, rfl, h4⟩, _⟩ := ok2.ce _ (List.mem_of_getElem? hj)
    exact ⟨a, C, dx, us, hp2, h2, hc, hn, by rw [← Paired.len h4]; exact hl, kk σ F2 _ (ok2.mut hj rfl rfl ⟨_, rfl, h4.put (p.mono s2 hp)⟩) ((env.mono s1).mono s2)⟩
def minus (H : Hp) (x : Addr) : Hp := fun a => if a = x then none else H a
theorem minus_ne {x a : Addr} (h : a ≠ x) : minus H x a = H a := if_neg h
theorem minus_self {x : Addr} : minus H x x = none := if_pos rfl
/-- what __init__ promises: out tells what the instance at x then is -/
def spI (C : Addr) (pre : Pre) : Sp := fun vs H Q E => ∃ x dx vs' F ps out err, vs = .ref x :: vs' ∧ H x = some (.ins C dx []) ∧ F x = none ∧ Same F H ∧ Paired (fun (p : Vp) v => p.p F v) ps vs' ∧ pre ps out err ∧
  (∀ p, out p → ∀ F' H', Same (minus H x) H' → Same F F' → Same F' H' → Newer F (minus H x) F' → p.p F' (.ref x) → Q .non H') ∧ (∀ e, err e → ∀ F' H' d us, Same (minus H x) H' → Same F F' → Same F' H' → Newer F (minus H x) F' → F' d = some (.xd us) → FsOk F' e.fs us → E (.ref e.C) (some d) H')
theorem we_mk {C : Addr} {pre : Pre} {E : L2.St → XK} {t : TA} (w : Wa fr Γ Θ t fun ps Θ1 => ∃ out err, pre ps out err ∧ (∀ p, out p → K p Θ1) ∧ ∀ e, err e → Kr fr Γ Θ1 (fun cls d σ H => E σ cls d H) e) : We fr Γ Θ (tMkD C (spI C pre) E t) K := fun σ F H ok env Q q =>
  w σ F H ok env _ fun ps Θ1 ⟨out, err, hp, ko, ke⟩ vs F1 H1 s1 ok1 hps => fun x dx nx ndx ne => by
    have hs : Same H1 (upd (upd H1 dx (.own x)) x (.ins C dx [])) := (same_upd ndx).trans (same_upd (by rw [upd_ne (Ne.symm ne)]; exact nx))
    have hm : ∀ {H' : Hp}, Same (minus (upd (upd H1 dx (.own x)) x (.ins C dx [])) x) H' → Same H1 H' := fun h a o e => h a o (by rw [minus_ne (ne_of_none e nx)]; exact hs a o e)
    have hn : ∀ {F' : Hp}, Newer F1 (minus (upd (upd H1 dx (.own x)) x (.ins C dx [])) x) F' → Newer F1 H1 F' := fun h a o e => by
      rcases h a o e with h' | h'
      · exact .inl h'
      · refine .inr (h'.elim (fun h' => ?_) .inr)
        by_cases ea : a = x
        · rw [ea]; exact .inl nx
        · rw [minus_ne ea] at h'
          exact .inl (hs.free h')
    refine ⟨x, dx, vs, F1, ps, out, err, rfl, upd_same, ok1.fh.free nx, ok1.fh.trans hs, hps, hp, fun p ho F' H' hh ff fh nw hv => ⟨rfl, ?_⟩, fun e he F' H' d us hh ff fh nw hd hf => ?_⟩
    · exact q p Θ1 (ko p ho) _ F' H' (s1.trans ff) (ok1.grow (hm hh) ff fh (hn nw)) hv
    · exact ke e he σ F' H' (ok1.grow (hm hh) ff fh (hn nw)) ((env.mono s1).mono ff) d us hd hf
theorem okf_init {x C dx : Addr} (hx : H x = some (.ins C dx [])) (fx : F x = none) (fh : Same F H) : OkF ⟨F, minus H x, []⟩ [cI x C dx []] F H := by
  refine ⟨fh, Same.refl F, fun a o h => .inl ⟨o, h⟩, fun a o _ h => ?_, fun a o h => ?_, by simp, fun c hc => ?_⟩
  · have h : minus H x a = some o := h
    by_cases e : a = x
    · rw [e, minus_self] at h; cases h
    · rw [minus_ne e] at h; exact h
  · have h : minus H x a = some o := h
    by_cases e : a = x
    · rw [e, minus_self] at h; cases h
    · rw [minus_ne e] at h; exact ⟨o, h⟩
  · rw [List.mem_singleton.mp hc]
    exact ⟨fx, ⟨_, hx, [], rfl, .nil⟩, minus_self⟩
end
section
variable {P : Program} {w : World} {K : PySem.W.Frag} {mg : Str → Option Value} {base : Heap} {qual : Str} {C : Addr} {st : Stmt} {N ps : List Str} {k : Nat} {pre : Pre}
/-- the body of __init__: at its end the instance is what out says -/
theorem SrcI.okAX (F : SrcI K C qual st ps) (S : FnScope N ps (defScope st)) (len : ∀ qs out err, pre qs out err → qs.length + 1 = ps.length)
    (hbody : ∀ (f : Addr) (cdv : Value) (A : Around) (outer : List Env) (s : Shared) (H : Hp) (E : XK) (qs : List Vp) (out : Vp → Prop) (err : Er → Prop), Room k (A.deeper (envOfC qual (defScope st) s.heap.objs.size f cdv)) → pre qs out err →
      ∃ t, PSs (cxOf (L2.CX P w) P w K mg base N qual (defScope st) f cdv A outer s H E) (defBody st) t ∧ ∀ fr x dx (Q : L2.St → Hp → Prop) (rt : VK), (∀ p, out p → ∀ σ F H, (∃ Θ, OkF fr Θ F H) → p.p F (.ref x) → Q σ H) → (∀ p, out p → ∀ F H, (∃ Θ, OkF fr Θ F H) → p.p F (.ref x) → rt .non H) → Rse fr E err →
        Kn fr (envOf N (zAt x :: qs)) [cI x C dx []] (t { nx := Q, rt := rt })) : DefI P w K mg base (L2.CX P w) (k + 1) C ps (spI C pre) := by
  refine F.okX S (fun vs H Q E h => ?_) (fun f cdv A outer s H vs Q E hr h => ?_)
  · obtain ⟨x, dx, vs', F, qs, out, err, rfl, _, _, _, h2, h3, _⟩ := h
    rw [List.length_cons, ← Paired.len h2]
    exact len _ _ _ h3
  · obtain ⟨x, dx, vs', F, qs, out, err, rfl, hx, fx, fh, h2, h3, h4, h5⟩ := h
    obtain ⟨t, ht, hk⟩ := hbody f cdv A outer s H E qs out err hr h3
    have post : ∀ {Θ : List Cel} {F' H' : Hp}, OkF ⟨F, minus H x, []⟩ Θ F' H' → Same (minus H x) H' ∧ Same F F' ∧ Same F' H' ∧ Newer F (minus H x) F' := fun ok => ⟨fun a o h => ok.h0 a o (by simp) h, ok.f0, ok.fh, ok.nw⟩
    have c1 : ∀ p, out p → ∀ (σ : L2.St) F' H', (∃ Θ, OkF ⟨F, minus H x, []⟩ Θ F' H') → p.p F' (.ref x) → Q .non H' := fun p hp σ F' H' ⟨Θ, ok⟩ hv => by
      obtain ⟨a, b, c, d⟩ := post ok
      exact h4 p hp F' H' a b c d hv
    have c2 : Rse ⟨F, minus H x, []⟩ E err := fun e he Θ F' H' d us ok hd hf => by
      obtain ⟨a, b, c, n⟩ := post ok
      exact h5 e he F' H' d us a b c n hd hf
    exact ⟨t, ht, hk ⟨F, minus H x, []⟩ x dx (fun _ H' => Q .non H') Q c1 (fun p hp F' H' => c1 p hp [] F' H') c2 _ F H (okf_init hx fx fh) (env_start (vs := .ref x :: vs') (.cons rfl h2))⟩
end
section
variable {F F' H H' : Hp} {E : XK} {err : Er → Prop}
theorem Post.new {Q : VK} {out : Vp → Prop} {p : Vp} {v : V} (h : Post F H Q out) (fh : Same F H) (hp : out p) (hh : Same H H') (hf : p.p (newF F H H') v) : Q v H' := by
  obtain ⟨n1, n2, n3⟩ := newF_of fh hh
  exact h p hp v _ H' hh n1 n2 n3 hf
end
end L2
set_option Elab.async false
set_option linter.all false
set_option maxRecDepth 100000
set_option maxHeartbeats 4000000
namespace L2
open PySem PySem.Spec PyProof.Rows PySem.HErr
def tagC (c : Cel) : Addr × Bool := (c.a, c.own)
def CellsAt (F H : Hp) (Θ : List Cel) : Prop := (Θ.map Cel.a).Nodup ∧ ∀ c ∈ Θ, F c.a = none ∧ ∃ o, H c.a = some o ∧ c.φ F o
def SameX (as : List Addr) (H H' : Hp) : Prop := ∀ a o, a ∉ as → H a = some o → H' a = some o
def minusL (H : Hp) (as : List Addr) : Hp := fun a => if a ∈ as then none else H a
abbrev PreC := List Vp → List Cel → (Vp → List Cel → Prop) → (Er → List Cel → Prop) → Prop
structure Eff (F H : Hp) (Θ : List Cel) (F' H' : Hp) (Θ' : List Cel) : Prop where
  hh : SameX (Θ.map Cel.a) H H'
  ff : Same F F'
  fh : Same F' H'
  nw : Newer F H F'
  ca : CellsAt F' H' Θ'
  tg : Θ'.map tagC = Θ.map tagC
def spC (pre : PreC) : Sp := fun vs H Q E => ∃ F ps Θ out err, Same F H ∧ CellsAt F H Θ ∧ Paired (fun (p : Vp) v => p.p F v) ps vs ∧ pre ps Θ out err ∧
  (∀ p Θ', out p Θ' → ∀ v F' H', Eff F H Θ F' H' Θ' → p.p F' v → Q v H') ∧ (∀ e Θ', err e Θ' → ∀ F' H' d us, Eff F H Θ F' H' Θ' → F' d = some (.xd us) → FsOk F' e.fs us → E (.ref e.C) (some d) H')
section
variable {fr : Fr} {Γ Γ' : Gam} {Θ Θ' Θl Θr : List Cel} {F F' H H' : Hp} {K : Vp → List Cel → Prop} {Q : VK}
theorem tag_a (h : Θ'.map tagC = Θ.map tagC) : Θ'.map Cel.a = Θ.map Cel.a := by
  have := congrArg (List.map Prod.fst) h
  rw [List.map_map, List.map_map] at this
  exact this
theorem tag_mem (h : Θ'.map tagC = Θ.map tagC) {c : Cel} (hc : c ∈ Θ') : ∃ d ∈ Θ, d.a = c.a ∧ d.own = c.own := by
  have : tagC c ∈ Θ.map tagC := by rw [← h]; exact List.mem_map.mpr ⟨c, hc, rfl⟩
  obtain ⟨d, hd, e⟩ := List.mem_map.mp this
  exact ⟨d, hd, (Prod.mk.inj e).1, (Prod.mk.inj e).2⟩
theorem OkF.cellsAt (k : OkF fr (Θl ++ Θr) F H) : CellsAt F H Θl := by
  have := k.nd
  rw [List.map_append, List.nodup_append] at this
  exact ⟨this.1, fun c hc => by
    obtain ⟨h1, h2, _⟩ := k.ce c (List.mem_append_left _ hc)
    exact ⟨h1, h2⟩⟩
theorem OkF.eff (k : OkF fr (Θl ++ Θr) F H) (e : Eff F H Θl F' H' Θ') : OkF fr (Θ' ++ Θr) F' H' := by
  have ea := tag_a e.tg
  have hB : ∀ c ∈ Θl ++ Θr, ∀ a o, a ∉ fr.B → fr.H0 a = some o → a ≠ c.a := fun c hc a o hb h q => by
    obtain ⟨_, _, h4⟩ := k.ce c hc
    cases ho : c.own with
    | true =>
      rw [if_pos ho] at h4
      rw [q, h4] at h
      cases h
    | false =>
      rw [if_neg (by rw [ho]; exact Bool.false_ne_true)] at h4
      rw [q] at hb
      exact hb h4
  have nl : ∀ a o, a ∉ fr.B → fr.H0 a = some o → a ∉ Θl.map Cel.a := fun a o hb h q => by
    obtain ⟨c, hc, e⟩ := List.mem_map.mp q
    exact hB c (List.mem_append_left _ hc) a o hb h e.symm
  refine ⟨e.fh, k.f0.trans e.ff, fun a o h => ?_, fun a o hb h => ?_, fun a o h => ?_, ?_, fun c hc => ?_⟩
  · exact k.nwr e.ff h (e.nw a o h)
  · exact e.hh a o (nl a o hb h) (k.h0 a o hb h)
  · by_cases q : a ∈ Θl.map Cel.a
    · rw [← ea] at q
      obtain ⟨c, hc, e1⟩ := List.mem_map.mp q
      obtain ⟨_, o', h', _⟩ := e.ca.2 c hc
      exact ⟨o', by rw [← e1]; exact h'⟩
    · obtain ⟨o', h'⟩ := k.al a o h
      exact ⟨o', e.hh a o' q h'⟩
  · rw [List.map_append, ea, ← List.map_append]
    exact k.nd
  · rcases List.mem_append.mp hc with hc | hc
    · obtain ⟨h1, h2⟩ := e.ca.2 c hc
      refine ⟨h1, h2, ?_⟩
      obtain ⟨d, hd, e1, e2⟩ := tag_mem e.tg hc
      have := (k.ce d (List.mem_append_left _ hd)).2.2
      rw [e1, e2] at this
      exact this
    · obtain ⟨h1, ⟨u, h2, h3⟩, h4⟩ := k.ce c (List.mem_append_right _ hc)
      have ne : c.a ∉ Θl.map Cel.a := fun q => by
        have := k.nd
        rw [List.map_append, List.nodup_append] at this
        exact this.2.2 _ q _ (List.mem_map.mpr ⟨c, hc, rfl⟩) rfl
      refine ⟨?_, ⟨u, e.hh _ _ ne h2, c.mono e.ff h3⟩, h4⟩
      cases q : F' c.a with
      | none => rfl
      | some o =>
        rcases e.nw _ _ q with ⟨o', h'⟩ | h' | ⟨vs, ht⟩
        · rw [h1] at h'
          cases h'
        · rw [h2] at h'
          cases h'
        · have e1 := e.fh _ _ q
          rw [e.hh _ _ ne h2] at e1
          exact (c.nt h3 ((Option.some.inj e1).trans ht)).elim
theorem okf_lent (fh : Same F H) (hc : CellsAt F H Θ) (ho : ∀ c ∈ Θ, c.own = true) : OkF ⟨F, minusL H (Θ.map Cel.a), []⟩ Θ F H := by
  refine ⟨fh, Same.refl F, fun a o h => .inl ⟨o, h⟩, fun a o _ h => ?_, fun a o h => ?_, hc.1, fun c hm => ?_⟩
  · have h : minusL H (Θ.map Cel.a) a = some o := h
    unfold minusL at h
    split at h
    · cases h
    · exact h
  · have h : minusL H (Θ.map Cel.a) a = some o := h
    unfold minusL at h
    split at h
    · cases h
    · exact ⟨o, h⟩
  · obtain ⟨h1, h2⟩ := hc.2 c hm
    refine ⟨h1, h2, ?_⟩
    rw [if_pos (ho c hm)]
    show minusL H (Θ.map Cel.a) c.a = none
    unfold minusL
    rw [if_pos (List.mem_map.mpr ⟨c, hm, rfl⟩)]
/-- Θ'' holds the cells Θ' (and others, which are let go) -/
theorem eff_of {Θ'' Θx : List Cel} (hc : CellsAt F H Θ) (ok : OkF ⟨F, minusL H (Θ.map Cel.a), []⟩ Θ'' F' H') (pm : Θ''.Perm (Θ' ++ Θx)) (tg : Θ'.map tagC = Θ.map tagC) : Eff F H Θ F' H' Θ' := by
  refine ⟨fun a o hn h => ok.h0 a o (by simp) ?_, ok.f0, ok.fh, fun a o h => ?_, (ok.perm pm).cellsAt, tg⟩
  · show minusL H (Θ.map Cel.a) a = some o
    unfold minusL
    rw [if_neg hn]
    exact h
  · rcases ok.nw a o h with h' | h' | h'
    · exact .inl h'
    · have h' : minusL H (Θ.map Cel.a) a = none := h'
      unfold minusL at h'
      split at h'
      · rename_i q
        rw [← tag_a tg] at q
        obtain ⟨c, hc', e⟩ := List.mem_map.mp q
        obtain ⟨h1, _⟩ := (ok.perm pm).cellsAt.2 c hc'
        rw [e, h] at h1
        cases h1
      · exact .inr (.inl h')
    · exact .inr (.inr h')
/-- what a def with lent cells returns: the cells Θ' are there then -/
def RetC (fr : Fr) (Q : VK) (tg : List (Addr × Bool)) (out : Vp → List Cel → Prop) : Prop := ∀ p Θ', out p Θ' → Θ'.map tagC = tg → ∀ Θ'' Θx, Θ''.Perm (Θ' ++ Θx) → Rt fr Θ'' Q p
def RseC (fr : Fr) (E : XK) (tg : List (Addr × Bool)) (err : Er → List Cel → Prop) : Prop := ∀ e Θ', err e Θ' → Θ'.map tagC = tg → ∀ Θ'' Θx, Θ''.Perm (Θ' ++ Θx) → ∀ F H d us, OkF fr Θ'' F H → F d = some (.xd us) → FsOk F e.fs us → E (.ref e.C) (some d) H
theorem RetC.fine {fr' : Fr} {tg : List (Addr × Bool)} {out : Vp → List Cel → Prop} (h : RetC fr Q tg out) (l : FrLe fr fr') : RetC fr' Q tg out := fun p Θ' ho ht Θ'' Θx pm => (h p Θ' ho ht Θ'' Θx pm).fine l
theorem RseC.fine {fr' : Fr} {E : XK} {tg : List (Addr × Bool)} {err : Er → List Cel → Prop} (h : RseC fr E tg err) (l : FrLe fr fr') : RseC fr' E tg err := fun e Θ' he ht Θ'' Θx pm F H d us ok => h e Θ' he ht Θ'' Θx pm F H d us (ok.le l)
end
section
variable {P : Program} {w : World} {K : PySem.W.Frag} {mg : Str → Option Value} {base : Heap} {x m qual : Str} {C : Addr} {st : Stmt} {N ps : List Str} {k : Nat} {pre : PreC}
theorem Src.okC (F : Src K mg x st ps) (S : FnScope N ps (defScope st)) (len : ∀ qs Θ out err, pre qs Θ out err → qs.length = ps.length ∧ ∀ c ∈ Θ, c.own = true)
    (hbody : ∀ (f : Addr) (cdv : Value) (A : Around) (outer : List Env) (s : Shared) (H : Hp) (E : XK) (qs : List Vp) (Θ : List Cel) (out : Vp → List Cel → Prop) (err : Er → List Cel → Prop), Room k (A.deeper (envOfC x (defScope st) s.heap.objs.size f cdv)) → pre qs Θ out err →
      ∃ t, PSs (cxOf CX0 P w K mg base N x (defScope st) f cdv A outer s H E).nox (defBody st) t ∧ ∀ fr Q, RetC fr Q (Θ.map tagC) out → Kn fr (envOf N qs) Θ (t { nx := fun _ H' => Q .non H', rt := Q })) : Def P w K mg base CX0 (k + 1) x ps (spC pre) := by
  refine F.ok S (fun vs H Q E h => ?_) (fun f cdv A outer s H vs Q E hr h => ?_)
  · obtain ⟨F, qs, Θ, out, err, _, _, h2, h3, _⟩ := h
    rw [← Paired.len h2]
    exact (len _ _ _ _ h3).1
  · obtain ⟨F, qs, Θ, out, err, h1, hc, h2, h3, h4, h5⟩ := h
    obtain ⟨t, ht, hk⟩ := hbody f cdv A outer s H E qs Θ out err hr h3
    exact ⟨t, ht, hk ⟨F, minusL H (Θ.map Cel.a), []⟩ Q (fun p Θ' ho tg Θ'' Θx pm v F' H' ok hv => h4 p Θ' ho v F' H' (eff_of hc ok pm tg) hv) _ F H (okf_lent h1 hc (len _ _ _ _ h3).2) (env_start h2)⟩
theorem SrcM.okC (F : SrcM K C m qual st ps) (S : FnScope N ps (defScope st)) (len : ∀ qs Θ out err, pre qs Θ out err → qs.length = ps.length ∧ ∀ c ∈ Θ, c.own = true)
    (hbody : ∀ (f : Addr) (cdv : Value) (A : Around) (outer : List Env) (s : Shared) (H : Hp) (E : XK) (qs : List Vp) (Θ : List Cel) (out : Vp → List Cel → Prop) (err : Er → List Cel → Prop), Room k (A.deeper (envOfC qual (defScope st) s.heap.objs.size f cdv)) → pre qs Θ out err →
      ∃ t, PSs (cxOf CX0 P w K mg base N qual (defScope st) f cdv A outer s H E).nox (defBody st) t ∧ ∀ fr Q, RetC fr Q (Θ.map tagC) out → Kn fr (envOf N qs) Θ (t { nx := fun _ H' => Q .non H', rt := Q })) : DefM P w K mg base CX0 (k + 1) C m ps (spC pre) := by
  refine F.ok S (fun vs H Q E h => ?_) (fun f cdv A outer s H vs Q E hr h => ?_)
  · obtain ⟨F, qs, Θ, out, err, _, _, h2, h3, _⟩ := h
    rw [← Paired.len h2]
    exact (len _ _ _ _ h3).1
  · obtain ⟨F, qs, Θ, out, err, h1, hc, h2, h3, h4, h5⟩ := h
    obtain ⟨t, ht, hk⟩ := hbody f cdv A outer s H E qs Θ out err hr h3
    exact ⟨t, ht, hk ⟨F, minusL H (Θ.map Cel.a), []⟩ Q (fun p Θ' ho tg Θ'' Θx pm v F' H' ok hv => h4 p Θ' ho v F' H' (eff_of hc ok pm tg) hv) _ F H (okf_lent h1 hc (len _ _ _ _ h3).2) (env_start h2)⟩
end
end L2
set_option Elab.async false
set_option linter.all false
set_option maxRecDepth 100000
set_option maxHeartbeats 4000000
namespace L2
open PySem PySem.Spec PyProof.Rows PySem.HErr
def zTy (n : String) : Vp := ⟨fun _ v => v = .ty n, fun _ h => h⟩
section
variable {fr : Fr} {Γ Γ' : Gam} {Θ Θ' : List Cel} {F F' H H' : Hp} {K : Vp → List Cel → Prop} {Q : VK} {Kf : PySem.W.Frag}
theorem we_cT {n : String} (k : K (zTy n) Θ) : We fr Γ Θ (tC (.ty n)) K := we_c (fun _ => rfl) k
theorem we_cR {a : Addr} (k : K (zAt a) Θ) : We fr Γ Θ (tC (.ref a)) K := we_c (fun _ => rfl) k
def TyP (fr : Fr) (Θ : List Cel) (Kf : PySem.W.Frag) (p : Vp) (t : Value) : Prop := ∀ F H v, OkF fr Θ F H → p.p F v → TyX Kf H v t
theorem ty_L {α : Type} {r : Rep α} {xs : List α} : TyP fr Θ Kf (iz (zL r) xs) (.type "list") := fun F H v ok ⟨a, vs, h1, h2, h3⟩ => by subst h1; exact .base (.lst (ok.fh _ _ h2))
theorem ty_T {α : Type} [TNar α] {r : Rep α} {xs : List α} : TyP fr Θ Kf (iz (zT r) xs) (.type "tuple") := fun F H v ok ⟨a, vs, h1, h2, h3⟩ => by
  subst h1
  rcases h2 with h2 | ⟨_, o, h2, _⟩
  · exact .base (.tup (ok.fh _ _ h2))
  · exact .fTuple (ok.fh _ _ h2)
theorem ty_2 {α β : Type} {r : Rep α} {s : Rep β} {x : α × β} : TyP fr Θ Kf (iz (z2 r s) x) (.type "tuple") := fun F H v ok ⟨a, u, w, h1, h2, h3⟩ => by subst h1; exact .base (.tup (ok.fh _ _ h2))
theorem ty_I {n : Int} : TyP fr Θ Kf (iz zI n) (.type "int") := fun F H v ok h => by cases (show v = V.int n from h); exact .base (.int _)
theorem ty_B {n : Bool} : TyP fr Θ Kf (iz zB n) (.type "bool") := fun F H v ok h => by cases (show v = V.bl n from h); exact .base (.bl _)
theorem ty_S {n : Str} : TyP fr Θ Kf (iz zS n) (.type "str") := fun F H v ok h => by cases h.1; exact .base (.str _)
theorem cb_isi {p : Vp} {a n : String} {b : Bool} (h : TyP fr Θ Kf p (.type a)) (e : kitB a n = some b) (k : K (iz zB b) Θ) : Cbs fr Θ (rIsi Kf) [p, zTy n] K := fun F H vs ok hps Q q => by
  cases hps with
  | cons h1 hp => cases hp with
    | cons h2 hp => cases hp with
      | nil =>
        have h2 : _ = V.ty n := h2
        subst h2
        exact ⟨_, _, _, _, b, rfl, .ty _, h F H _ ok h1, kit_ty e, q.go k ok rfl⟩
theorem kit_ll : kitB "list" "list" = some true := by decide +kernel
theorem kit_tt : kitB "tuple" "tuple" = some true := by decide +kernel
theorem kit_ii : kitB "int" "int" = some true := by decide +kernel
theorem kit_ib : kitB "int" "bool" = some false := by decide +kernel
theorem kit_bb : kitB "bool" "bool" = some true := by decide +kernel
theorem kit_ss : kitB "str" "str" = some true := by decide +kernel
theorem im_t {b : Bool} {t : TT} {c : Bool} (h : b = true → Et fr Γ Θ t c) : b = true → Et fr Γ Θ t c := h
theorem im_f {b : Bool} {t : TT} {c : Bool} (h : b = false → Et fr Γ Θ t c) : b = false → Et fr Γ Θ t c := h
theorem im_tv {b : Bool} {t : TE} {p : Vp} (h : b = true → Ev fr Γ Θ t p) : b = true → Ev fr Γ Θ t p := h
theorem im_fv {b : Bool} {t : TE} {p : Vp} (h : b = false → Ev fr Γ Θ t p) : b = false → Ev fr Γ Θ t p := h
end
end L2
set_option Elab.async false
set_option linter.all false
set_option maxRecDepth 100000
set_option maxHeartbeats 4000000
namespace L2
open PySem PySem.Spec PyProof.Rows PySem.HErr
abbrev PreN := List Vp → (Vp → List Cel → Prop) → (Er → Prop) → Prop
def spN (pre : PreN) : Sp := fun vs H Q E => ∃ F ps out err, Same F H ∧ Paired (fun (p : Vp) v => p.p F v) ps vs ∧ pre ps out err ∧
  (∀ p Θn, out p Θn → ∀ v F' H', Same H H' → Same F F' → Same F' H' → Newer F H F' → CellsAt F' H' Θn → (∀ c ∈ Θn, H c.a = none ∧ c.own = true) → p.p F' v → Q v H') ∧ PErs F H E err
section
variable {fr : Fr} {Γ Γ' : Gam} {Θ Θ' Θn : List Cel} {F F' H H' : Hp} {K : Vp → List Cel → Prop} {Q : VK}
theorem OkF.more (k : OkF fr Θ F H) (hh : Same H H') (ff : Same F F') (fh : Same F' H') (nw : Newer F H F') (ca : CellsAt F' H' Θn) (hn : ∀ c ∈ Θn, H c.a = none ∧ c.own = true) : OkF fr (Θn ++ Θ) F' H' := by
  have g := k.grow hh ff fh nw
  refine ⟨g.fh, g.f0, g.nw, g.h0, g.al, ?_, fun c hc => ?_⟩
  · rw [List.map_append, List.nodup_append]
    refine ⟨ca.1, g.nd, fun a ha b hb e => ?_⟩
    obtain ⟨c, hc, rfl⟩ := List.mem_map.mp ha
    obtain ⟨d, hd, rfl⟩ := List.mem_map.mp hb
    obtain ⟨_, ⟨o, h2, _⟩, _⟩ := k.ce d hd
    have h1 : H c.a = none := (hn c hc).1
    rw [e, h2] at h1
    cases h1
  · rcases List.mem_append.mp hc with hc | hc
    · obtain ⟨h1, h2⟩ := ca.2 c hc
      obtain ⟨h3, h4⟩ := hn c hc
      exact ⟨h1, h2, by rw [if_pos h4]; exact k.h0n h3⟩
    · exact g.ce c hc
theorem sps_N {pre : PreN} {E : L2.St → XK} {ps : List Vp} {out : Vp → List Cel → Prop} {err : Er → Prop} (hp : pre ps out err) (k : ∀ p Θn, out p Θn → K p (Θn ++ Θ)) (x : ∀ e, err e → Kr fr Γ Θ (fun cls d σ H => E σ cls d H) e) : Sps fr Γ Θ (spN pre) E ps K := fun σ F H vs ok env hps Q q =>
  ⟨F, ps, out, err, ok.fh, hps, hp, fun p Θn ho v F' H' hh ff fh nw ca hn h => q p _ (k p Θn ho) v F' H' ff (ok.more hh ff fh nw ca hn) h,
    fun e he F' H' d us hh ff fh nw hd hf => x e he σ F' H' (ok.grow hh ff fh nw) (env.mono ff) d us hd hf⟩
def RetN (fr : Fr) (Q : VK) (out : Vp → List Cel → Prop) : Prop := ∀ p Θn, out p Θn → (∀ c ∈ Θn, c.own = true) → ∀ Θ'' Θx, Θ''.Perm (Θn ++ Θx) → Rt fr Θ'' Q p
theorem RetN.fine {fr' : Fr} {out : Vp → List Cel → Prop} (h : RetN fr Q out) (l : FrLe fr fr') : RetN fr' Q out := fun p Θn ho hn Θ'' Θx pm => (h p Θn ho hn Θ'' Θx pm).fine l
end
section
variable {P : Program} {w : World} {K : PySem.W.Frag} {mg : Str → Option Value} {base : Heap} {x m qual : Str} {C : Addr} {st : Stmt} {N ps : List Str} {k : Nat} {pre : PreN}
theorem retN_of {F H : Hp} {Q : VK} {out : Vp → List Cel → Prop} (h4 : ∀ p Θn, out p Θn → ∀ v F' H', Same H H' → Same F F' → Same F' H' → Newer F H F' → CellsAt F' H' Θn → (∀ c ∈ Θn, H c.a = none ∧ c.own = true) → p.p F' v → Q v H') : RetN ⟨F, H, []⟩ Q out := fun p Θn ho hn Θ'' Θx pm v F' H' ok hv => by
  have ok2 := ok.perm pm
  obtain ⟨a, b, c, d⟩ := ok.post
  refine h4 p Θn ho v F' H' a b c d ok2.cellsAt (fun e he => ⟨?_, hn e he⟩) hv
  have := (ok2.ce e (List.mem_append_left _ he)).2.2
  rw [if_pos (hn e he)] at this
  exact this
theorem Src.okN (F : Src K mg x st ps) (S : FnScope N ps (defScope st)) (len : ∀ qs out err, pre qs out err → qs.length = ps.length)
    (hbody : ∀ (f : Addr) (cdv : Value) (A : Around) (outer : List Env) (s : Shared) (H : Hp) (E : XK) (qs : List Vp) (out : Vp → List Cel → Prop) (err : Er → Prop), Room k (A.deeper (envOfC x (defScope st) s.heap.objs.size f cdv)) → pre qs out err →
      ∃ t, PSs (cxOf CX0 P w K mg base N x (defScope st) f cdv A outer s H E).nox (defBody st) t ∧ ∀ fr Q, RetN fr Q out → Kn fr (envOf N qs) [] (t { nx := fun _ H' => Q .non H', rt := Q })) : Def P w K mg base CX0 (k + 1) x ps (spN pre) := by
  refine F.ok S (fun vs H Q E h => ?_) (fun f cdv A outer s H vs Q E hr h => ?_)
  · obtain ⟨F, qs, out, err, _, h2, h3, _⟩ := h
    rw [← Paired.len h2]
    exact len _ _ _ h3
  · obtain ⟨F, qs, out, err, h1, h2, h3, h4, h5⟩ := h
    obtain ⟨t, ht, hk⟩ := hbody f cdv A outer s H E qs out err hr h3
    exact ⟨t, ht, hk _ Q (retN_of h4) _ F H (OkF.start h1) (env_start h2)⟩
end
section
variable {fr : Fr} {Γ Γ' : Gam} {Θ Θ' Θn : List Cel} {F F' H H' : Hp} {K : Vp → List Cel → Prop} {Q : VK}
/-- the value as it stood in F0 -/
def pin (F0 : Hp) (p : Vp) : Vp := ⟨fun _ v => p.p F0 v, fun _ h => h⟩
/-- the object at a, and what it is just now -/
def zBoth (a : Addr) (q : Vp) : Vp := ⟨fun F v => v = .ref a ∧ q.p F v, fun e ⟨h1, h2⟩ => ⟨h1, q.mono e h2⟩⟩
/-- Fc: F0 and the contents of the cells Θb -/
structure Lend (fr : Fr) (Θb : List Cel) (F0 Fc : Hp) : Prop where
  s : Same F0 Fc
  f0 : Same fr.F0 F0
  nw : ∀ a o, F0 a = some o → Nwr fr.F0 fr.H0 a o
  nc : ∀ a o, Fc a = some o → (∃ o', F0 a = some o') ∨ a ∈ Θb.map Cel.a
  nd : (Θb.map Cel.a).Nodup
  ce : ∀ c ∈ Θb, F0 c.a = none ∧ (∃ o, Fc c.a = some o ∧ c.φ F0 o) ∧ c.own = true ∧ fr.H0 c.a = none
theorem we_varP {Θb : List Cel} {F0 Fc : Hp} {B : List Addr} {H0 : Hp} {p : Vp} {i : Nat} (hl : Lend fr Θb F0 Fc) (h : Γ[i]? = some (some (pin F0 p))) (k : K p Θ) : We ⟨Fc, H0, B⟩ Γ Θ (tVar i) K := fun σ F H ok env Q q => by
  obtain ⟨v, h1, h2⟩ := env.get h
  exact ⟨v, h1, q.go k ok (p.mono (hl.s.trans ok.f0) h2)⟩
theorem we_varB {a : Addr} {p : Vp} {i : Nat} (h : Γ[i]? = some (some (zBoth a p))) (k : K p Θ) : We fr Γ Θ (tVar i) K := fun σ F H ok env Q q => by
  obtain ⟨v, h1, h2⟩ := env.get h
  exact ⟨v, h1, q.go k ok h2.2⟩
/-- a list, lent -/
theorem Lend.lst {α : Type} {r : Rep α} {G : Addr} {xs : List α} {Θx : List Cel} {F0 Fc : Hp} (hl : Lend fr (cL G r xs :: Θx) F0 Fc) : ∀ F v, Same Fc F → (zAt G).p F0 v → (zBoth G (iz (zL r) xs)).p F v := fun F v hs hv => by
  have hv : v = .ref G := hv
  subst hv
  obtain ⟨_, ⟨o, h2, vs, rfl, h3⟩, _⟩ := hl.ce _ (.head _)
  exact ⟨rfl, G, vs, rfl, hs _ _ h2, Paired.imp2 (fun _ _ h => r.mono (hl.s.trans hs) h) h3⟩
end
end L2
set_option Elab.async false
set_option linter.all false
set_option maxRecDepth 100000
set_option maxHeartbeats 4000000
namespace L2
open PySem PySem.Spec PyProof.Rows PySem.HErr
abbrev PreB := List Vp → (Vp → Prop) → Prop
section
variable {fr : Fr} {Γ Γ' : Gam} {Θ Θ' Θn : List Cel} {F F' H H' : Hp} {K : Vp → List Cel → Prop} {Q : VK}
theorem perm_of_mem {c : Cel} (h : c ∈ Θ) : ∃ Θr, Θ.Perm ([c] ++ Θr) := by
  obtain ⟨s, t, rfl⟩ := List.append_of_mem h
  exact ⟨s ++ t, List.perm_middle⟩
def RetB (fr : Fr) (Q : VK) (b l : Addr) (o : Vp → Prop) : Prop := ∀ p, o p → ∀ Θ, cBox true b l ∈ Θ → Rt fr Θ Q p
theorem RetB.fine {fr' : Fr} {b l : Addr} {o : Vp → Prop} (h : RetB fr Q b l o) (le : FrLe fr fr') : RetB fr' Q b l o := fun p hp Θ hc => (h p hp Θ hc).fine le
end
/-- a list of two things -/
def zLp {α β : Type} (r : Rep α) (s : Rep β) : Rep (α × β) := ⟨fun F v x => ∃ a u w, v = .ref a ∧ F a = some (.lst [u, w]) ∧ r.p F u x.1 ∧ s.p F w x.2, fun e ⟨a, u, w, h1, h2, h3, h4⟩ => ⟨a, u, w, h1, e _ _ h2, r.mono e h3, s.mono e h4⟩⟩
end L2
set_option Elab.async false
set_option linter.all false
set_option maxRecDepth 100000
set_option maxHeartbeats 4000000
namespace L2
open PySem PySem.Spec PyProof.Rows PySem.HErr
section
variable {fr : Fr} {Γ Γ' : Gam} {Θ : List Cel} {F F' H H' : Hp} {K : Vp → List Cel → Prop} {Q : VK}
theorem tyl_S {x : Str} {Kf : PySem.W.Frag} : ∀ F H v, OkF fr Θ F H → (iz zS x).p F v → tyV Kf "str" v H := fun F H v ok ⟨h1, _⟩ => by
  subst h1
  exact rfl
def optP {α : Type} (r : Rep α) : Option α → Vp
  | none => zNon
  | some x => iz r x
class NotNon {α : Type} (r : Rep α) : Prop where
  nn : ∀ F v x, r.p F v x → v ≠ .non
instance {α : Type} {r : Rep α} : NotNon (zL r) := ⟨fun F v x ⟨a, vs, h, _⟩ => by rw [h]; exact fun q => by cases q⟩
instance {α : Type} [TNar α] {r : Rep α} : NotNon (zT r) := ⟨fun F v x ⟨a, vs, h, _⟩ => by rw [h]; exact fun q => by cases q⟩
instance {α β : Type} {r : Rep α} {s : Rep β} : NotNon (z2 r s) := ⟨fun F v x ⟨a, u, w, h, _⟩ => by rw [h]; exact fun q => by cases q⟩
instance {α β γ : Type} {r : Rep α} {s : Rep β} {t : Rep γ} : NotNon (z3 r s t) := ⟨fun F v x ⟨a, u, w, z, h, _⟩ => by rw [h]; exact fun q => by cases q⟩
instance : NotNon zI := ⟨fun F v x h => by rw [show v = .int x from h]; exact fun q => by cases q⟩
instance : NotNon zS := ⟨fun F v x h => by rw [h.1]; exact fun q => by cases q⟩
theorem ops_isO {α : Type} {r : Rep α} [NotNon r] {o : Option α} (k : K (iz zB o.isNone) Θ) : Ops fr Θ (fun x y H Q => y = .non ∧ Q (.bl (decide (x = .non))) H) (optP r o) zNon K := fun F H v w ok hv hw Q q => by
  refine ⟨hw, q.go k ok ?_⟩
  show V.bl _ = V.bl _
  cases o with
  | none => rw [show v = .non from hv]; rfl
  | some x => rw [decide_eq_false (NotNon.nn F v x hv)]; rfl
theorem ops_notO {α : Type} {r : Rep α} [NotNon r] {o : Option α} (k : K (iz zB o.isSome) Θ) : Ops fr Θ (fun x y H Q => y = .non ∧ Q (.bl (!decide (x = .non))) H) (optP r o) zNon K := fun F H v w ok hv hw Q q => by
  refine ⟨hw, q.go k ok ?_⟩
  show V.bl _ = V.bl _
  cases o with
  | none => rw [show v = .non from hv]; rfl
  | some x => rw [decide_eq_false (NotNon.nn F v x hv)]; rfl
theorem ops_isX {α : Type} {r : Rep α} [NotNon r] {x : α} (k : K (iz zB false) Θ) : Ops fr Θ (fun x y H Q => y = .non ∧ Q (.bl (decide (x = .non))) H) (iz r x) zNon K := ops_isO (o := some x) k
theorem ops_notX {α : Type} {r : Rep α} [NotNon r] {x : α} (k : K (iz zB true) Θ) : Ops fr Θ (fun x y H Q => y = .non ∧ Q (.bl (!decide (x = .non))) H) (iz r x) zNon K := ops_notO (o := some x) k
theorem ops_isN (k : K (iz zB true) Θ) : Ops fr Θ (fun x y H Q => y = .non ∧ Q (.bl (decide (x = .non))) H) zNon zNon K := ops_isO (r := zI) (o := none) k
theorem ops_notN (k : K (iz zB false) Θ) : Ops fr Θ (fun x y H Q => y = .non ∧ Q (.bl (!decide (x = .non))) H) zNon zNon K := ops_notO (r := zI) (o := none) k
end
end L2
set_option Elab.async false
set_option linter.all false
set_option maxRecDepth 100000
set_option maxHeartbeats 4000000
namespace L2
open PySem PySem.Spec PyProof.Rows PySem.HErr
section
variable {P : Program} {w : World} {A : Around} {E : Value → Shared → Prop} {s : Shared} {K : PySem.W.Frag} {a C f dx : Addr} {mA : Str → Option Value} {name : Str} {args : List Value}
theorem bindS (X : K.In s.heap) (hm : Meth K C name f) {self : Value} {Q : Value × List Value → Shared → Prop} (h : Q (.ref f, [self]) s) : wpAny (model P w) A (bindSpecial (.ref f) self) Q E s :=
  (PySem.W.bind_fn X self (beq_iff_eq.mp hm.fn)).here h
theorem special_own {Q : Option Value → Shared → Prop} (X : K.In s.heap) (I : ObjM s.heap a dx C mA) (hm : Meth K C name f)
    (hc : wpAny (model P w) A (call (.ref f) (.ref a :: args)) (fun v s' => Q (some v) s') E s) : wpAny (model P w) A (callSpecial? (.ref a) name args) Q E s := by
  obtain ⟨od, J, _⟩ := I.look
  unfold callSpecial? specialOf
  refine wpAny_bind (wpAny_bind (J.type.here ((PySem.W.looks_findIn X hm.at_).here ?_)))
  refine wpAny_holding ?_
  refine wpAny_bind (bindS X hm ?_)
  exact wpAny_bind (wpAny_mono hc (fun v s' h => wpAny_pure h) fun _ _ z => z)
end
end L2
set_option Elab.async false
set_option linter.all false
set_option maxRecDepth 100000
set_option maxHeartbeats 4000000
namespace L2
open PySem PySem.Spec PyProof.Rows PySem.HErr
/-- an instance of the class at C -/
def InsC (fr : Fr) (Θ : List Cel) (p : Vp) (C : Addr) : Prop := ∀ F H v, OkF fr Θ F H → p.p F v → ∃ a dx fs, v = .ref a ∧ H a = some (.ins C dx fs)
end L2
set_option Elab.async false
set_option linter.all false
set_option maxRecDepth 100000
set_option maxHeartbeats 4000000
namespace L2
open PySem PySem.Spec PyProof.Rows PySem.HErr
abbrev big : Nat := 100000
theorem big_line {n : Nat} (h : n ≤ big) : n ≤ sizeLine := Nat.le_trans h (by unfold sizeLine; decide)
theorem big_lt {n : Nat} (h : n ≤ big) : n < sizeLine := Nat.lt_of_le_of_lt h (by unfold sizeLine; decide)
inductive EK where
  | tooMany | badWord | double | badNumber | empty | unknown | inUse | badState | notReady | notSound | badPair | badText | noUndo
  deriving DecidableEq
inductive HE where
  | tooMany (kind : Str) (limit : Int)
  | badWord (w : Str)
  | double (n : Str)
  | badNumber (n : Int)
  | empty (n : Str)
  | unknown (n : Str)
  | inUse (n : Str)
  | badState (ns : List Int)
  | notReady (s p : Str) (i : Int)
  | notSound (d : PyData)
  | badPair (n : Str)
  | badText (n : Int)
  | noUndo
def HE.k : HE → EK
  | .tooMany _ _ => .tooMany
  | .badWord _ => .badWord
  | .double _ => .double
  | .badNumber _ => .badNumber
  | .empty _ => .empty
  | .unknown _ => .unknown
  | .inUse _ => .inUse
  | .badState _ => .badState
  | .notReady _ _ _ => .notReady
  | .notSound _ => .notSound
  | .badPair _ => .badPair
  | .badText _ => .badText
  | .noUndo => .noUndo
/-- what is wanted: of the result, of an error -/
abbrev DM (β : Type) := (β → Prop) → (HE → Prop) → Prop
def noX : HE → Prop := fun _ => False
def ifD (c : Bool) (A B : Prop) : Prop := (c = true → A) ∧ (c = false → B)
def andD (c : Bool) (f : (Bool → Prop) → Prop) (k : Bool → Prop) : Prop := (c = true → f k) ∧ (c = false → k false)
def orD (c : Bool) (f : (Bool → Prop) → Prop) (k : Bool → Prop) : Prop := (c = true → k true) ∧ (c = false → f k)
def joinD {S : Type} (f : (S → Prop) → Prop) (k : S → Prop) : Prop := f k
def forD {α S : Type} : List α → S → (α → S → (S → Prop) → (S → Prop) → Prop) → (S → Prop) → Prop
  | [], s, _, after => after s
  | x :: xs, s, body, after => body x s (fun s' => forD xs s' body after) after
def whileN {S : Type} : Nat → S → (S → (S → Prop) → (S → Prop) → Prop) → (S → Prop) → Prop
  | 0, _, _, _ => False
  | n + 1, s, step, after => step s (fun s' => whileN n s' step after) after
def whileD {S : Type} (s : S) (step : S → (S → Prop) → (S → Prop) → Prop) (after : S → Prop) : Prop := ∃ n, whileN n s step after
def mapD {α β : Type} : List α → List β → (α → (β → Prop) → Prop) → (List β → Prop) → Prop
  | [], acc, _, k => k acc
  | x :: xs, acc, f, k => f x fun y => mapD xs (acc ++ [y]) f k
def compD {α β : Type} : List α → List β → (α → (Option β → Prop) → Prop) → (List β → Prop) → Prop
  | [], acc, _, k => k acc
  | x :: xs, acc, f, k => f x fun o => compD xs (acc ++ o.toList) f k
def Vp.Le (p q : Vp) : Prop := ∀ F v, p.p F v → q.p F v
theorem Vp.Le.refl (p : Vp) : p.Le p := fun _ _ h => h
def yN : Rep Unit := ⟨fun _ v _ => v = .non, fun _ h => h⟩
def yS : Rep Str := ⟨fun F v x => zS.p F v x ∧ x.length ≤ big, fun e h => ⟨zS.mono e h.1, h.2⟩⟩
def yL {α : Type} (r : Rep α) : Rep (List α) := ⟨fun F v x => (zL r).p F v x ∧ x.length ≤ big, fun e h => ⟨(zL r).mono e h.1, h.2⟩⟩
def yT {α : Type} [TNar α] (r : Rep α) : Rep (List α) := ⟨fun F v x => (zT r).p F v x ∧ x.length ≤ big, fun e h => ⟨(zT r).mono e h.1, h.2⟩⟩
def yD {α : Type} (r : Rep α) : Rep (List (Str × α)) := ⟨fun F v x => (zD r).p F v x ∧ x.length ≤ big, fun e h => ⟨(zD r).mono e h.1, h.2⟩⟩
/-- None or a thing -/
def yO {α : Type} (r : Rep α) : Rep (Option α) := ⟨fun F v x => match x with | none => v = .non | some y => r.p F v y, fun {F F' v x} e h => by
  cases x with
  | none => exact h
  | some y => exact r.mono e h⟩
mutual
def xp (F : Hp) : PyData → V → Prop
  | .none, v => v = .non
  | .int i, v => v = .int i
  | .str x, v => v = .str x ∧ Asc x ∧ x.length ≤ big
  | .list ds, v => ∃ a vs, v = .ref a ∧ F a = some (.lst vs) ∧ ds.length ≤ big ∧ xpAll F ds vs
  | .tuple ds, v => ∃ a vs, v = .ref a ∧ TupB (!isSDs ds) F a vs ∧ ds.length ≤ big ∧ xpAll F ds vs
  | .bool _, _ => False
  | .dict _, _ => False
def xpAll (F : Hp) : List PyData → List V → Prop
  | [], vs => vs = []
  | d :: ds, vs => ∃ v r, vs = v :: r ∧ xp F d v ∧ xpAll F ds r
end
mutual
theorem xp_mono {F F' : Hp} (e : Same F F') : ∀ (d : PyData) (v : V), xp F d v → xp F' d v
  | .none, _, h => by simp only [xp] at h ⊢; exact h
  | .int _, _, h => by simp only [xp] at h ⊢; exact h
  | .str _, _, h => by simp only [xp] at h ⊢; exact h
  | .bool _, _, h => by simp only [xp] at h
  | .dict _, _, h => by simp only [xp] at h
  | .list ds, _, h => by
    simp only [xp] at h ⊢
    obtain ⟨a, vs, h1, h2, h3, h4⟩ := h
    exact ⟨a, vs, h1, e _ _ h2, h3, xpAll_mono e ds vs h4⟩
  | .tuple ds, _, h => by
    simp only [xp] at h ⊢
    obtain ⟨a, vs, h1, h2, h3, h4⟩ := h
    exact ⟨a, vs, h1, h2.mono e, h3, xpAll_mono e ds vs h4⟩
theorem xpAll_mono {F F' : Hp} (e : Same F F') : ∀ (ds : List PyData) (vs : List V), xpAll F ds vs → xpAll F' ds vs
  | [], _, h => by simp only [xpAll] at h ⊢; exact h
  | d :: ds, _, h => by
    simp only [xpAll] at h ⊢
    obtain ⟨v, r, h1, h2, h3⟩ := h
    exact ⟨v, r, h1, xp_mono e d v h2, xpAll_mono e ds r h3⟩
end
def yX : Rep PyData := ⟨fun F v d => xp F d v ∧ d.depth ≤ 60, fun e h => ⟨xp_mono e _ _ h.1, h.2⟩⟩
/-- lists and tuples of a fixed form -/
def zL3 {α β γ : Type} (r : Rep α) (s : Rep β) (t : Rep γ) : Rep (α × β × γ) := ⟨fun F v x => ∃ a u w z, v = .ref a ∧ F a = some (.lst [u, w, z]) ∧ r.p F u x.1 ∧ s.p F w x.2.1 ∧ t.p F z x.2.2, fun e ⟨a, u, w, z, h1, h2, h3, h4, h5⟩ => ⟨a, u, w, z, h1, e _ _ h2, r.mono e h3, s.mono e h4, t.mono e h5⟩⟩
def z4 {α β γ δ : Type} (r : Rep α) (s : Rep β) (t : Rep γ) (u : Rep δ) : Rep (α × β × γ × δ) := ⟨fun F v x => ∃ a v1 v2 v3 v4, v = .ref a ∧ F a = some (.tup [v1, v2, v3, v4]) ∧ r.p F v1 x.1 ∧ s.p F v2 x.2.1 ∧ t.p F v3 x.2.2.1 ∧ u.p F v4 x.2.2.2, fun e ⟨a, v1, v2, v3, v4, h1, h2, h3, h4, h5, h6⟩ => ⟨a, v1, v2, v3, v4, h1, e _ _ h2, r.mono e h3, s.mono e h4, t.mono e h5, u.mono e h6⟩⟩
def z5 {α β γ δ ε : Type} (r : Rep α) (s : Rep β) (t : Rep γ) (u : Rep δ) (w : Rep ε) : Rep (α × β × γ × δ × ε) := ⟨fun F v x => ∃ a v1 v2 v3 v4 v5, v = .ref a ∧ F a = some (.tup [v1, v2, v3, v4, v5]) ∧ r.p F v1 x.1 ∧ s.p F v2 x.2.1 ∧ t.p F v3 x.2.2.1 ∧ u.p F v4 x.2.2.2.1 ∧ w.p F v5 x.2.2.2.2, fun e ⟨a, v1, v2, v3, v4, v5, h1, h2, h3, h4, h5, h6, h7⟩ => ⟨a, v1, v2, v3, v4, v5, h1, e _ _ h2, r.mono e h3, s.mono e h4, t.mono e h5, u.mono e h6, w.mono e h7⟩⟩
def z1 {α : Type} (r : Rep α) : Rep α := ⟨fun F v x => ∃ a v1, v = .ref a ∧ F a = some (.tup [v1]) ∧ r.p F v1 x, fun e ⟨a, v1, h1, h2, h3⟩ => ⟨a, v1, h1, e _ _ h2, r.mono e h3⟩⟩
/-- a list of one's own, of bounded size -/
def cY {α : Type} (a : Addr) (r : Rep α) (xs : List α) : Cel := ⟨a, true, fun F o => (∃ vs, o = .lst vs ∧ PVs r F vs xs) ∧ xs.length ≤ big, fun e ⟨⟨vs, h1, h2⟩, h3⟩ => ⟨⟨vs, h1, Paired.imp2 (fun _ _ h => r.mono e h) h2⟩, h3⟩, fun h e => by subst e; simp at h⟩
theorem le_yS {z : Str} (h : z.length ≤ big) : (iz zS z).Le (iz yS z) := fun _ _ q => ⟨q, h⟩
theorem le_zS {z : Str} : (iz yS z).Le (iz zS z) := fun _ _ q => q.1
theorem le_yL {α : Type} {r : Rep α} {xs : List α} (h : xs.length ≤ big) : (iz (zL r) xs).Le (iz (yL r) xs) := fun _ _ q => ⟨q, h⟩
theorem le_zL {α : Type} {r : Rep α} {xs : List α} : (iz (yL r) xs).Le (iz (zL r) xs) := fun _ _ q => q.1
section
variable {fr : Fr} {Γ Γ' : Gam} {Θ Θ' : List Cel} {F F' H H' : Hp} {K : Vp → List Cel → Prop} {Q : VK}
theorem Kq.conv (h : Kq fr F K Q) : Kq fr F (fun p Θ1 => ∃ q, p.Le q ∧ K q Θ1) Q := fun p Θ' ⟨q, l, k⟩ v F' H' s ok hp => h q Θ' k v F' H' s ok (l _ _ hp)
theorem We.conv {t : TE} (w : We fr Γ Θ t fun p Θ1 => ∃ q, p.Le q ∧ K q Θ1) : We fr Γ Θ t K := fun σ F H ok env Q q => w σ F H ok env Q q.conv
theorem Ops.conv {r : R2} {p q : Vp} (w : Ops fr Θ r p q fun p Θ1 => ∃ q, p.Le q ∧ K q Θ1) : Ops fr Θ r p q K := fun F H v w' ok h1 h2 Q k => w F H v w' ok h1 h2 Q k.conv
theorem Cbs.conv {r : List V → Hp → VK → Prop} {ps : List Vp} (w : Cbs fr Θ r ps fun p Θ1 => ∃ q, p.Le q ∧ K q Θ1) : Cbs fr Θ r ps K := fun F H vs ok h1 Q k => w F H vs ok h1 Q k.conv
theorem Mts.conv {r : V → List V → Hp → VK → Prop} {p : Vp} {ps : List Vp} (w : Mts fr Θ r p ps fun p Θ1 => ∃ q, p.Le q ∧ K q Θ1) : Mts fr Θ r p ps K := fun F H v vs ok h1 h2 Q k => w F H v vs ok h1 h2 Q k.conv
theorem Sls.conv {r : V → Option Int → Option Int → Hp → VK → Prop} {p : Vp} {lo hi : Option Int} (w : Sls fr Θ r p lo hi fun p Θ1 => ∃ q, p.Le q ∧ K q Θ1) : Sls fr Θ r p lo hi K := fun F H v ok h1 Q k => w F H v ok h1 Q k.conv
theorem Ops.le {r : R2} {p q p' q' : Vp} (w : Ops fr Θ r p' q' K) (h1 : p.Le p') (h2 : q.Le q') : Ops fr Θ r p q K := fun F H v w' ok a b Q k => w F H v w' ok (h1 _ _ a) (h2 _ _ b) Q k
theorem Sls.le {r : V → Option Int → Option Int → Hp → VK → Prop} {p p' : Vp} {lo hi : Option Int} (w : Sls fr Θ r p' lo hi K) (h : p.Le p') : Sls fr Θ r p lo hi K := fun F H v ok a Q k => w F H v ok (h _ _ a) Q k
/-- a fact that the value tells -/
theorem Ops.tell {r : R2} {p q : Vp} {A : Prop} (h : ∀ F v, p.p F v → A) (w : A → Ops fr Θ r p q K) : Ops fr Θ r p q K := fun F H v w' ok a b Q k => w (h _ _ a) F H v w' ok a b Q k
theorem Cbs.tell {r : List V → Hp → VK → Prop} {p : Vp} {ps : List Vp} {A : Prop} (h : ∀ F v, p.p F v → A) (w : A → Cbs fr Θ r (p :: ps) K) : Cbs fr Θ r (p :: ps) K := fun F H vs ok a Q k => by
  cases a with
  | cons a b => exact w (h _ _ a) F H _ ok (.cons a b) Q k
theorem te_S {z : Str} : ∀ F v, (iz yS z).p F v → z.length ≤ big := fun _ _ h => h.2
theorem we_cSy {z : Str} (h : Asc z) (hl : z.length ≤ big) (k : K (iz yS z) Θ) : We fr Γ Θ (tC (.str z)) K := we_c (p := iz yS z) (fun _ => ⟨⟨rfl, h⟩, hl⟩) k
theorem we_cNy (k : K (iz yN ()) Θ) : We fr Γ Θ (tC .non) K := we_c (fun _ => rfl) k
theorem oy_eqS {m n : Str} (k : K (iz zB (decide (m = n))) Θ) : Ops fr Θ rEq (iz yS m) (iz yS n) K := (ops_eqS k).le le_zS le_zS
theorem oy_neS {m n : Str} (k : K (iz zB (!decide (m = n))) Θ) : Ops fr Θ rNe (iz yS m) (iz yS n) K := (ops_neS k).le le_zS le_zS
theorem oy_addS {m n : Str} (hl : m.length + n.length ≤ big) (k : K (iz yS (m ++ n)) Θ) : Ops fr Θ (fun x y H Q => ∃ i j, x = .str i ∧ y = .str j ∧ i.length + j.length ≤ sizeLine ∧ Q (.str (i ++ j)) H) (iz yS m) (iz yS n) K :=
  (Ops.conv (ops_addS (big_line hl) ⟨_, le_yS (by show (m.cps ++ n.cps).size ≤ big; rw [Array.size_append]; exact hl), k⟩)).le le_zS le_zS
theorem oy_ixS {z : Str} {n : Int} {c : Nat} (e : atI z.cps.toList n = some c) (k : K (iz yS ⟨#[c]⟩) Θ) : Ops fr Θ rIxS (iz yS z) (iz zI n) K :=
  Ops.tell te_S fun hl => (Ops.conv (ops_ixS (big_line hl) e ⟨_, le_yS (by show 1 ≤ big; decide), k⟩)).le le_zS (Vp.Le.refl _)
def SeqY {α : Type} (fr : Fr) (Θ : List Cel) (p : Vp) (r : Rep α) (xs : List α) : Prop := SeqP fr Θ p r xs ∧ ∀ F H v, OkF fr Θ F H → p.p F v → xs.length ≤ big
theorem sy_L {α : Type} {r : Rep α} {xs : List α} : SeqY fr Θ (iz (yL r) xs) r xs := ⟨fun F H v ok h => seq_L F H v ok h.1, fun _ _ _ _ h => h.2⟩
theorem oy_ixL {Kf : PySem.W.Frag} {α : Type} {r : Rep α} {xs : List α} {n : Int} {x : α} (e : atI xs n = some x) (k : K (iz r x) Θ) : Ops fr Θ (rIxL Kf) (iz (yL r) xs) (iz zI n) K := (ops_ixL e k).le le_zL (Vp.Le.refl _)
theorem cy_len {Kf : PySem.W.Frag} {α : Type} {r : Rep α} {xs : List α} {p : Vp} (h : SeqY fr Θ p r xs) (k : xs.length ≤ big → K (iz zI xs.length) Θ) : Cbs fr Θ (rLenQ Kf) [p] K := fun F H vs ok hps Q q => by
  have hl : xs.length ≤ big := by
    cases hps with
    | cons a b => exact h.2 F H _ ok a
  exact cb_len h.1 (k hl) F H vs ok hps Q q
theorem cy_lenS {z : Str} (k : z.length ≤ big → K (iz zI z.length) Θ) : Cbs fr Θ (fun xs H Q => ∃ z, xs = [.str z] ∧ z.length ≤ sizeLine ∧ Q (.int z.length) H) [iz yS z] K := Cbs.tell te_S fun hl F H vs ok hps Q q => cb_lenS (big_line hl) (k hl) F H vs ok (by
  cases hps with
  | cons a b => cases b with
    | nil => exact .cons a.1 .nil) Q q
theorem cy_all {Kf : PySem.W.Frag} {xs : List Bool} (k : K (iz zB (xs.all id)) Θ) : Cbs fr Θ (rAll Kf) [iz (yL zB) xs] K := fun F H vs ok hps Q q => cb_all k F H vs ok (by
  cases hps with
  | cons a b => cases b with
    | nil => exact .cons a.1 .nil) Q q
theorem we_lstY {α : Type} {r : Rep α} {t : TA} (w : Wa fr Γ Θ t fun ps Θ1 => ∃ xs : List α, ps = xs.map (iz r) ∧ xs.length ≤ 1000 ∧ K (iz (yL r) xs) Θ1) : We fr Γ Θ (tLst t) K := We.conv (we_lst (r := r) fun σ F H ok env Q q => w σ F H ok env Q fun ps Θ1 ⟨xs, e, hl, k⟩ => q ps Θ1 ⟨xs, e, by rw [e, List.length_map]; exact hl, _, le_yL (Nat.le_trans hl (by decide)), k⟩)
end
end L2
set_option Elab.async false
set_option linter.all false
set_option maxRecDepth 100000
set_option maxHeartbeats 4000000
namespace L2
open PySem PySem.Spec PyProof.Rows PySem.HErr
theorem mapD_comp {α β : Type} {f : α → (β → Prop) → Prop} {k : List β → Prop} : ∀ (xs : List α) (acc : List β), mapD xs acc f k = compD xs acc (fun x k => f x fun y => k (some y)) k
  | [], _ => rfl
  | x :: xs, acc => by
    show (f x fun y => mapD xs (acc ++ [y]) f k) = f x fun y => compD xs (acc ++ [y]) _ k
    congr 1
    funext y
    exact mapD_comp xs _
theorem mapD_pure {α β : Type} {f : α → β} {k : List β → Prop} : ∀ (xs : List α) (acc : List β), mapD xs acc (fun x k => k (f x)) k = k (acc ++ xs.map f)
  | [], acc => by simp [mapD]
  | x :: xs, acc => by
    show mapD xs (acc ++ [f x]) _ k = _
    rw [mapD_pure xs]
    simp
section
variable {fr : Fr} {Γ Γ' : Gam} {Θ Θ' : List Cel} {F F' H H' : Hp} {K : Vp → List Cel → Prop} {Q : VK}
theorem wi_yL {Kf : PySem.W.Frag} {tl : TE} {K : List Vp → List Cel → Prop} (w : We fr Γ Θ tl fun p Θ1 => ∃ (α : Type) (r : Rep α) (xs : List α), p = iz (yL r) xs ∧ (xs.length ≤ big → K (xs.map (iz r)) Θ1)) : Wi fr Γ Θ (iList Kf tl) K := fun σ F H ok env R q =>
  wi_list (fr := fr) (Γ := Γ) (Θ := Θ) (Kf := Kf) (tl := tl) (K := K) (fun σ F H ok env Q q => w σ F H ok env Q fun p Θ1 ⟨α, r, xs, e, k⟩ v F1 H1 s1 ok1 hp => by
    subst e
    exact q (iz (zL r) xs) Θ1 ⟨α, r, xs, rfl, k hp.2⟩ v F1 H1 s1 ok1 hp.1) σ F H ok env R q
theorem kn_forW {wi : TI} {g : TG} {tb : TS} {D : Ends} {α S : Type} {r : Rep α} (G : S → Gam) (T : S → List Cel) (s0 : S)
    (w : Wi fr Γ Θ wi fun its Θ1 => ∃ (xs : List α) (body : α → S → (S → Prop) → (S → Prop) → Prop) (after : S → Prop) (vs : List Nat) (Γ2 : α → S → Gam), its = xs.map (iz r) ∧ Θ1 = T s0 ∧ GLe Γ (G s0) ∧ (∀ x s, TgR g vs (iz r x) (G s) (Γ2 x s)) ∧ forD xs s0 body after ∧
      (∀ fr', FrLe fr fr' → ∀ x s nx M, (∀ s' Γ' Θ', nx s' → GLe Γ' (G s') → Θ' = T s' → Kn fr' Γ' Θ' M) → (∀ s' Γ' Θ', after s' → GLe Γ' (G s') → Θ' = T s' → Kn fr' Γ' Θ' D.nx) → body x s nx after → Kn fr' (Γ2 x s) (T s) (tb { D with nx := M, ct := M, bk := D.nx })) ∧
      (∀ s, after s → Kn fr (G s) (T s) D.nx)) : Kn fr Γ Θ (tFor wi g tb D) :=
  kn_for fun σ F H ok env R q => w σ F H ok env R fun its Θ1 ⟨xs, body, after, vs, Γ2, e1, e2, l0, tg, hf, hs, hd⟩ => q its Θ1 (by
    subst e1 e2
    refine ⟨fun i Γ1 Θ2 => ∃ s, Γ1 = G s ∧ Θ2 = T s ∧ forD (xs.drop i) s body after, ⟨G s0, l0, s0, rfl, rfl, hf⟩, fun fr' le i p Γ1 Θ2 hi ⟨s, eg, et, h⟩ => ?_, fun Γ1 Θ2 ⟨s, eg, et, h⟩ => ?_⟩
    · subst eg et
      obtain ⟨x, hx, rfl⟩ := get_izs hi
      rw [drop_at hx] at h
      refine ⟨vs, _, tg x s, hs fr' le x s _ _ (fun s' Γ' Θ' hn gl e => ?_) (fun s' Γ' Θ' hn gl e => ?_) h⟩
      · subst e
        exact kn_mid ⟨G s', gl, s', rfl, rfl, hn⟩
      · subst e
        exact ((hd s' hn).fine le).le gl
    · subst eg et
      rw [List.length_map, List.drop_length] at h
      exact hd s h)
theorem kn_whileW {c : TT} {tb : TS} {D : Ends} {S : Type} (G : S → Gam) (T : S → List Cel) (s0 : S) {step : S → (S → Prop) → (S → Prop) → Prop} {after : S → Prop} (h : whileD s0 step after) (l0 : GLe Γ (G s0)) (e0 : Θ = T s0)
    (hs : ∀ s nx M, (∀ s' Γ' Θ', nx s' → GLe Γ' (G s') → Θ' = T s' → Kn fr Γ' Θ' M) → (∀ s' Γ' Θ', after s' → GLe Γ' (G s') → Θ' = T s' → Kn fr Γ' Θ' D.nx) → step s nx after →
      Wt fr (G s) (T s) c fun b Θ1 => (b = true → Kn fr (G s) Θ1 (tb { D with nx := M, ct := M, bk := D.nx })) ∧ (b = false → Kn fr (G s) Θ1 D.nx))
    (hd : ∀ s, after s → Kn fr (G s) (T s) D.nx) : Kn fr Γ Θ (tWhile c tb D) := fun σ F H ok env => by
  subst e0
  obtain ⟨n0, h0⟩ := h
  refine ⟨fun m σ' H' => ∃ s F', whileN m s step after ∧ OkF fr (T s) F' H' ∧ EnvF (G s) σ' F', ⟨n0, s0, F, h0, ok, env.le l0⟩, ?_⟩
  rintro m σ1 H1 ⟨s, F1, hw, ok1, env1⟩
  cases m with
  | zero => exact hw.elim
  | succ m =>
    refine hs s (fun s' => whileN m s' step after) (Mid fr fun Γ Θ => ∃ s, Γ = G s ∧ Θ = T s ∧ whileN m s step after) (fun s' Γ' Θ' hn gl e => ?_) (fun s' Γ' Θ' hn gl e => ?_) hw σ1 F1 H1 ok1 env1 _ fun b Θ1 ⟨k1, k2⟩ F2 H2 s2 ok2 => ?_
    · subst e
      exact kn_mid ⟨G s', gl, s', rfl, rfl, hn⟩
    · subst e
      exact (hd s' hn).le gl
    · cases b with
      | true =>
        rw [if_pos rfl]
        refine ⟨_, ?_, k1 rfl σ1 F2 H2 ok2 (env1.mono s2)⟩
        rintro σ3 H3 ⟨Γ3, Θ3, F3, ⟨s3, rfl, rfl, hn⟩, ok3, env3⟩
        exact ⟨m, Nat.lt_succ_self m, s3, F3, hn, ok3, env3⟩
      | false =>
        rw [if_neg Bool.false_ne_true]
        exact k2 rfl σ1 F2 H2 ok2 (env1.mono s2)
theorem kn_cutW {t u : TS} {D : Ends} {S : Type} (G : S → Gam) (T : S → List Cel) {f : (S → Prop) → Prop} {k : S → Prop} (h : joinD f k)
    (hb : ∀ M, (∀ s' Γ' Θ', k s' → GLe Γ' (G s') → Θ' = T s' → Kn fr Γ' Θ' M) → f k → Kn fr Γ Θ (t { D with nx := M })) (hr : ∀ s, k s → Kn fr (G s) (T s) (u D)) : Kn fr Γ Θ (C8.tCut t u D) :=
  kn_cut (fun Γ Θ => ∃ s, Γ = G s ∧ Θ = T s ∧ k s) (hb _ (fun s' Γ' Θ' hn gl e => by
    subst e
    exact kn_mid ⟨G s', gl, s', rfl, rfl, hn⟩) h) fun Γ Θ ⟨s, e1, e2, hk⟩ => by
    subst e1 e2
    exact hr s hk
theorem wt_andC {K : Bool → List Cel → Prop} {t u : TT} (w : Wt fr Γ Θ t fun b Θ1 => (b = true → Wt fr Γ Θ1 u K) ∧ (b = false → K false Θ1)) : Wt fr Γ Θ (tAnd t u) K := fun σ F H ok env Q q =>
  w σ F H ok env _ fun b Θ1 ⟨k1, k2⟩ F1 H1 s1 ok1 => by
    cases b with
    | true => rw [if_pos rfl]; exact k1 rfl σ F1 H1 ok1 (env.mono s1) Q fun c Θ2 kk F2 H2 s2 => q c Θ2 kk F2 H2 (s1.trans s2)
    | false => rw [if_neg Bool.false_ne_true]; exact q false Θ1 (k2 rfl) F1 H1 s1 ok1
theorem wt_orC {K : Bool → List Cel → Prop} {t u : TT} (w : Wt fr Γ Θ t fun b Θ1 => (b = false → Wt fr Γ Θ1 u K) ∧ (b = true → K true Θ1)) : Wt fr Γ Θ (tOr t u) K := fun σ F H ok env Q q =>
  w σ F H ok env _ fun b Θ1 ⟨k2, k1⟩ F1 H1 s1 ok1 => by
    cases b with
    | true => rw [if_pos rfl]; exact q true Θ1 (k1 rfl) F1 H1 s1 ok1
    | false => rw [if_neg Bool.false_ne_true]; exact k2 rfl σ F1 H1 ok1 (env.mono s1) Q fun c Θ2 kk F2 H2 s2 => q c Θ2 kk F2 H2 (s1.trans s2)
theorem we_andC {t u : TE} (w : We fr Γ Θ t fun p Θ1 => ∃ b, p = iz zB b ∧ (b = true → We fr Γ Θ1 u K) ∧ (b = false → K (iz zB false) Θ1)) : We fr Γ Θ (tAndV t u) K := fun σ F H ok env Q q =>
  w σ F H ok env _ fun p Θ1 ⟨b, e, k1, k2⟩ v F1 H1 s1 ok1 hp => by
    subst e
    refine ⟨b, hp, ?_⟩
    cases b with
    | true => rw [if_pos rfl]; exact k1 rfl σ F1 H1 ok1 (env.mono s1) Q (q.mono s1)
    | false => rw [if_neg Bool.false_ne_true]; exact q _ Θ1 (k2 rfl) _ F1 H1 s1 ok1 rfl
theorem orK {b : Bool} {f : (Bool → Prop) → Prop} {k : Bool → Prop} {u : TT} {K : Bool → List Cel → Prop} (h : orD b f k) (x : f k → Wt fr Γ Θ u fun c Θ' => Θ' = Θ ∧ k c) (kk : ∀ c, k c → K c Θ) : (b = false → Wt fr Γ Θ u K) ∧ (b = true → K true Θ) :=
  ⟨fun e σ F H ok env Q q => x (h.2 e) σ F H ok env Q fun c Θ' ⟨e1, hc⟩ => q c Θ' (by rw [e1]; exact kk c hc), fun e => kk true (h.1 e)⟩
theorem andKv {b : Bool} {f : (Bool → Prop) → Prop} {k : Bool → Prop} {u : TE} (h : andD b f k) (x : f k → We fr Γ Θ u fun p Θ' => Θ' = Θ ∧ ∃ c, p = iz zB c ∧ k c) (kk : ∀ c, k c → K (iz zB c) Θ) : ∃ b', iz zB b = iz zB b' ∧ (b' = true → We fr Γ Θ u K) ∧ (b' = false → K (iz zB false) Θ) :=
  ⟨b, rfl, fun e σ F H ok env Q q => x (h.1 e) σ F H ok env Q fun p Θ' ⟨e1, c, e2, hc⟩ => q p Θ' (by rw [e1, e2]; exact kk c hc), fun e => kk false (h.2 e)⟩
/-- a if c else b, of one kind; f is a way of both -/
theorem we_ifD {α : Type} {r : Rep α} {c : TT} {ta tb : TE} {k : α → Prop} (w : Wt fr Γ Θ c fun b Θ1 => Θ1 = Θ ∧ (b = true → We fr Γ Θ ta fun p Θ2 => Θ2 = Θ ∧ ∃ x, p = iz r x ∧ k x) ∧ (b = false → We fr Γ Θ tb fun p Θ2 => Θ2 = Θ ∧ ∃ x, p = iz r x ∧ k x)) (kk : ∀ x, k x → K (iz r x) Θ) : We fr Γ Θ (tIf c ta tb) K :=
  we_if fun σ F H ok env Q q => w σ F H ok env Q fun b Θ1 ⟨e, k1, k2⟩ => q b Θ1 (by
    subst e
    exact ⟨fun h => (k1 h).imp fun p Θ2 ⟨e1, x, e2, hx⟩ => by rw [e1, e2]; exact kk x hx, fun h => (k2 h).imp fun p Θ2 ⟨e1, x, e2, hx⟩ => by rw [e1, e2]; exact kk x hx⟩)
/-- a < b < c of ints -/
theorem we_chainI {h1 h2 : Int → Int → Bool} {ta tb tc : TE} (w : We fr Γ Θ ta fun p Θ1 => We fr Γ Θ1 tb fun q Θ2 => ∃ a b c, p = iz zI a ∧ q = iz zI b ∧ Ev fr Γ Θ2 tc (iz zI c) ∧ K (iz zB (h1 a b && h2 b c)) Θ2) : We fr Γ Θ (tChain (rI0 fun i j => .bl (h1 i j)) (rI0 fun i j => .bl (h2 i j)) ta tb tc) K := fun σ F H ok env Q q =>
  w σ F H ok env _ fun p Θ1 w1 v1 F1 H1 s1 ok1 hp1 => w1 σ F1 H1 ok1 (env.mono s1) _ fun p2 Θ2 ⟨a, b, c, e1, e2, w2, k⟩ v2 F2 H2 s2 ok2 hp2 => by
    subst e1 e2
    refine ⟨a, b, hp1, hp2, h1 a b, rfl, ?_⟩
    cases hb : h1 a b with
    | true =>
      rw [if_pos rfl]
      refine w2 σ F2 H2 ok2 ((env.mono s1).mono s2) _ fun o Θ3 ⟨e3, e4⟩ v3 F3 H3 s3 ok3 hp3 => ?_
      subst e3 e4
      rw [hb, Bool.true_and] at k
      exact ⟨b, c, hp2, hp3, q _ Θ3 k _ F3 H3 ((s1.trans s2).trans s3) ok3 rfl⟩
    | false =>
      rw [if_neg Bool.false_ne_true]
      rw [hb, Bool.false_and] at k
      exact q _ Θ2 k _ F2 H2 (s1.trans s2) ok2 rfl
theorem we_lcW {α β : Type} {r : Rep α} {s : Rep β} {wi : TI} {g : TG} {tt : TT} {te : TE} {vs : List Nat}
    (w : Wi fr Γ Θ wi fun its Θ1 => ∃ (xs : List α) (f : α → (Option β → Prop) → Prop) (k : List β → Prop) (Γ2 : α → Gam), its = xs.map (iz r) ∧ Θ1 = Θ ∧ xs.length ≤ big ∧ (∀ x, TgR g vs (iz r x) (wipeG Γ vs) (Γ2 x)) ∧ compD xs [] f k ∧
      (∀ x c kx, f x kx → Wt fr (Γ2 x) (c :: Θ) tt fun b Θ1 => (b = true → We fr (Γ2 x) Θ1 te fun q Θ' => Θ' = c :: Θ ∧ ∃ y, q = iz s y ∧ kx (some y)) ∧ (b = false → Θ1 = c :: Θ ∧ kx none)) ∧
      (∀ ys, k ys → ys.length ≤ big → K (iz (yL s) ys) Θ)) : We fr Γ Θ (tLc wi g tt te vs) K := fun σ F H ok env Q q => by
  refine w σ F H ok env _ fun its Θ1 ⟨xs, f, k, Γ2, e1, e2, hl, tg, hc, hs, hk⟩ J F1 H1 s1 ok1 jok => ?_
  subst e1 e2
  intro D nD
  refine ⟨fun i m H' => m = xs.length - i ∧ i ≤ xs.length ∧ ∃ F2 ys, Same F1 F2 ∧ OkF fr (cL D s ys :: Θ1) F2 H' ∧ ys.length ≤ i ∧ compD (xs.drop i) ys f k, ⟨xs.length, by simp, Nat.zero_le _, F1, [], Same.refl _, ok1.mkOwn (c := cL D s []) nD rfl ⟨[], rfl, .nil⟩, Nat.le_refl _, hc⟩, ?_⟩
  rintro i m H' ⟨rfl, hi, F2, ys, s2, ok2, yl, py⟩
  obtain ⟨j1, j2⟩ := jok F2 H' s2 ok2.fh
  by_cases hlt : i < xs.length
  · have hx : xs[i]? = some xs[i] := List.getElem?_eq_getElem hlt
    generalize xs[i] = x at hx
    obtain ⟨jg, jy⟩ := j1 i (iz r x) (by rw [List.getElem?_map, hx]; rfl)
    refine .inr ⟨jg, fun H3 => ∃ F3 ys, Same F1 F3 ∧ OkF fr (cL D s ys :: Θ1) F3 H3 ∧ ys.length ≤ i + 1 ∧ compD (xs.drop (i + 1)) ys f k, fun H3 p => ⟨xs.length - (i + 1), by omega, rfl, hlt, p⟩, fun v H3 y => ?_⟩
    obtain ⟨F3, e1, e2, e3, e4, e5⟩ := jy v H3 y
    have ok3 := ok2.grow e2 e1 e3 e4
    have s3 := s2.trans e1
    have hd : xs.drop i = x :: xs.drop (i + 1) := by
      obtain ⟨hl, e⟩ := List.getElem?_eq_some_iff.mp hx
      rw [List.drop_eq_getElem_cons hl, e]
    rw [hd] at py
    refine tg x (L2.wipe σ vs) F3 H3 v ok3.fh ((env.mono (s1.trans s3)).wipe vs) e5 _ fun σ2 env2 hw => ⟨?_, ?_⟩
    · rw [hw, wipe_idem]
    · refine hs x _ _ py σ2 F3 H3 ok3 env2 _ fun b Θ2 ⟨k1, k2⟩ F4 H4 s4 ok4 => ?_
      cases b with
      | true =>
        rw [if_pos rfl]
        refine k1 rfl σ2 F4 H4 ok4 (env2.mono s4) _ fun p Θ3 ⟨e8, y, e9, hy⟩ u F5 H5 s5 ok5 hp => ?_
        subst e8 e9
        obtain ⟨_, ⟨o, h2, acc, rfl, h4⟩, _⟩ := ok5.ce _ (List.mem_cons_self ..)
        have ok6 := ok5.mut (i := 0) (c := cL D s ys) (c' := cL D s (ys ++ [y])) (o := .lst (acc ++ [u])) rfl rfl rfl ⟨_, rfl, PySem.Paired.snoc h4 hp⟩
        refine ⟨acc, h2, ?_, F5, ys ++ [y], (s3.trans s4).trans s5, ok6, by rw [List.length_append]; show _ + 1 ≤ _; omega, hy⟩
        rw [Paired.len h4]
        exact big_lt (by omega)
      | false =>
        rw [if_neg Bool.false_ne_true]
        obtain ⟨e8, hn⟩ := k2 rfl
        subst e8
        have hn : compD (xs.drop (i + 1)) (ys ++ []) f k := hn
        rw [List.append_nil] at hn
        exact ⟨F4, ys, s3.trans s4, ok4, by omega, hn⟩
  · have e : i = xs.length := by omega
    subst e
    rw [List.drop_length] at py
    obtain ⟨_, ⟨o, h2, acc, rfl, h4⟩, _⟩ := ok2.ce _ (List.mem_cons_self ..)
    have ok3 := ok2.frz (i := 0) (c := cL D s ys) rfl rfl h2
    have sD : Same F2 (upd F2 D (.lst acc)) := same_upd (ok2.ce _ (List.mem_cons_self ..)).1
    have yb : ys.length ≤ big := by omega
    refine .inl ⟨by rw [List.length_map] at j2; exact j2, q _ _ (hk ys py yb) _ _ H' ((s1.trans s2).trans sD) ok3 ⟨⟨D, acc, rfl, upd_same, Paired.imp2 (fun _ _ h => s.mono sD h) h4⟩, yb⟩⟩
/-- without a test -/
theorem we_lcM {α β : Type} {r : Rep α} {s : Rep β} {wi : TI} {g : TG} {te : TE} {vs : List Nat}
    (w : Wi fr Γ Θ wi fun its Θ1 => ∃ (xs : List α) (f : α → (β → Prop) → Prop) (k : List β → Prop) (Γ2 : α → Gam), its = xs.map (iz r) ∧ Θ1 = Θ ∧ xs.length ≤ big ∧ (∀ x, TgR g vs (iz r x) (wipeG Γ vs) (Γ2 x)) ∧ mapD xs [] f k ∧
      (∀ x c kx, f x kx → We fr (Γ2 x) (c :: Θ) te fun q Θ' => Θ' = c :: Θ ∧ ∃ y, q = iz s y ∧ kx y) ∧
      (∀ ys, k ys → ys.length ≤ big → K (iz (yL s) ys) Θ)) : We fr Γ Θ (tLc wi g tYes te vs) K :=
  we_lcW (r := r) (s := s) fun σ F H ok env R q => w σ F H ok env R fun its Θ1 ⟨xs, f, k, Γ2, e1, e2, hl, tg, hm, he, hk⟩ => q its Θ1 ⟨xs, fun x k => f x fun y => k (some y), k, Γ2, e1, e2, hl, tg, by rw [← mapD_comp]; exact hm,
    fun x c kx h => wt_yes ⟨fun _ => (he x c _ h), (fun h => nomatch h)⟩, hk⟩
theorem we_lcM0 {α β : Type} {r : Rep α} {s : Rep β} {wi : TI} {g : TG} {te : TE} {vs : List Nat}
    (w : Wi fr Γ Θ wi fun its Θ1 => ∃ (xs : List α) (f : α → β) (Γ2 : α → Gam), its = xs.map (iz r) ∧ Θ1 = Θ ∧ xs.length ≤ big ∧ (∀ x, TgR g vs (iz r x) (wipeG Γ vs) (Γ2 x)) ∧
      (∀ x c, Ev fr (Γ2 x) (c :: Θ) te (iz s (f x))) ∧ K (iz (yL s) (xs.map f)) Θ) : We fr Γ Θ (tLc wi g tYes te vs) K :=
  we_lcM (r := r) (s := s) fun σ F H ok env R q => w σ F H ok env R fun its Θ1 ⟨xs, f, Γ2, e1, e2, hl, tg, he, k⟩ => q its Θ1 ⟨xs, fun x k => k (f x), (· = xs.map f), Γ2, e1, e2, hl, tg, by rw [mapD_pure]; rfl,
    fun x c kx h => (he x c).imp fun p Θ' ⟨e3, e4⟩ => ⟨e4, _, e3, h⟩, fun ys e _ => by rw [e]; exact k⟩
theorem kn_par {i j : Nat} {ta : TA} {D : Ends} (w : Wa fr Γ Θ ta fun ps Θ1 => ∃ p q, ps = [p, q] ∧ Kn fr ((Γ.set i (some p)).set j (some q)) Θ1 D.nx) : Kn fr Γ Θ (tPar i j ta D) := fun σ F H ok env =>
  w σ F H ok env _ fun ps Θ1 ⟨p, q, e, k⟩ vs F1 H1 s1 ok1 hps => by
    subst e
    cases hps with
    | cons h1 hp => cases hp with
      | cons h2 hp => cases hp with
        | nil => exact ⟨_, _, rfl, k _ F1 H1 ok1 (((env.mono s1).set h1).set h2)⟩
end
end L2
set_option Elab.async false
set_option linter.all false
set_option maxRecDepth 100000
set_option maxHeartbeats 4000000
namespace L2
open PySem PySem.Spec PyProof.Rows PySem.HErr
def preW {α β : Type} (ef : HE → Er) (args : α → List Vp) (r : Rep β) (m : α → DM β) : Pre := fun ps out err => ∃ x Q X, ps = args x ∧ m x Q X ∧ out = (fun p => ∃ y, Q y ∧ p = iz r y) ∧ err = fun e => ∃ z, X z ∧ e = ef z
def preBW {α β : Type} (args : α → List Vp) (r : Rep β) (m : α → DM β) : PreB := fun qs o => ∃ x Q, qs = args x ∧ m x Q noX ∧ o = fun p => ∃ y, Q y ∧ p = iz r y
def RetW {β : Type} (fr : Fr) (Qv : VK) (r : Rep β) (Q : β → Prop) : Prop := ∀ y, Q y → ∀ Θ, Rt fr Θ Qv (iz r y)
def RetBW {β : Type} (fr : Fr) (b l : Addr) (Qv : VK) (r : Rep β) (Q : β → Prop) : Prop := ∀ y, Q y → ∀ Θ, cBox true b l ∈ Θ → Rt fr Θ Qv (iz r y)
def RseW (fr : Fr) (E : XK) (ef : HE → Er) (X : HE → Prop) : Prop := ∀ z, X z → ∀ Γ Θ, Kr fr Γ Θ (fun cls d _ H => E cls d H) (ef z)
section
variable {fr fr' : Fr} {Γ Γ' : Gam} {Θ Θ' : List Cel} {F F' H H' : Hp} {K : Vp → List Cel → Prop} {Qv : VK}
theorem RetW.fine {β : Type} {r : Rep β} {Q : β → Prop} (h : RetW fr Qv r Q) (l : FrLe fr fr') : RetW fr' Qv r Q := fun y hy Θ => (h y hy Θ).fine l
theorem RetBW.fine {β : Type} {b l : Addr} {r : Rep β} {Q : β → Prop} (h : RetBW fr b l Qv r Q) (le : FrLe fr fr') : RetBW fr' b l Qv r Q := fun y hy Θ hc => (h y hy Θ hc).fine le
theorem RseW.fine {E : XK} {ef : HE → Er} {X : HE → Prop} (h : RseW fr E ef X) (l : FrLe fr fr') : RseW fr' E ef X := fun z hz Γ Θ σ F H ok env d us hd hf => h z hz Γ Θ σ F H (ok.le l) env d us hd hf
theorem sps_W {α β : Type} {ef : HE → Er} {args : α → List Vp} {r : Rep β} {m : α → DM β} {E : L2.St → XK} {ps : List Vp} {Q : β → Prop} {X : HE → Prop} (x : α) (h : m x Q X) (k : ∀ y, Q y → K (iz r y) Θ) (xx : ∀ z, X z → Kr fr Γ Θ (fun cls d σ H => E σ cls d H) (ef z)) (e : ps = args x := by rfl) : Sps fr Γ Θ (spA (preW ef args r m)) E ps K :=
  sps_A ⟨x, Q, X, e, h, rfl, rfl⟩ (fun p ⟨y, hy, e⟩ => by rw [e]; exact k y hy) fun er ⟨z, hz, e⟩ => by rw [e]; exact xx z hz
/-- nothing is raised -/
theorem sps_W0 {α β : Type} {ef : HE → Er} {args : α → List Vp} {r : Rep β} {m : α → DM β} {E : L2.St → XK} {ps : List Vp} {Q : β → Prop} (x : α) (h : m x Q noX) (k : ∀ y, Q y → K (iz r y) Θ) (e : ps = args x := by rfl) : Sps fr Γ Θ (spA (preW ef args r m)) E ps K := sps_W x h k (fun z hz => hz.elim) e
def drawD (m : Int) (k : Int → Prop) : Prop := 0 < m ∧ m ≤ 10 ^ 40 ∧ ∀ n, 0 ≤ n → n < m → k n
section
variable {Kf : PySem.W.Frag} {mg : Str → Option Value} {C : Addr} {d : PlanD}
theorem FldR.conv {f : Str} {p q q' : Vp} (h : FldR Kf f p q) (hq : ∀ F v u, p.p F v → q.p F u → q'.p F u) : FldR Kf f p q' := fun F v hp => by
  obtain ⟨a, C, dx, fs, u, h1, h2, h3, h4, h5, h6⟩ := h F v hp
  exact ⟨a, C, dx, fs, u, h1, h2, h3, h4, h5, hq F v u hp h6⟩
theorem PlanOk.nw (h : PlanOk d) {z : Str} (hz : z ∈ d.names) : Wd z := by
  obtain ⟨r, hr, rfl⟩ := List.mem_map.mp hz
  exact (h.st r hr).1
theorem KVs.imp {α : Type} {r s : Rep α} {kvs : List (Key × V)} {rows : List (Str × α)} (h : KVs r F kvs rows) (f : ∀ v x, x ∈ rows → r.p F v x.2 → s.p F v x.2) : KVs s F kvs rows := by
  have : ∀ {kvs : List (Key × V)} {rows : List (Str × α)}, KVs r F kvs rows → (∀ v x, x ∈ rows → r.p F v x.2 → s.p F v x.2) → KVs s F kvs rows := by
    intro kvs rows h
    induction h with
    | nil => intro _; exact .nil
    | cons a _ ih => intro f; exact .cons ⟨a.1, f _ _ (List.mem_cons_self ..) a.2⟩ (ih fun v x hx => f v x (List.mem_cons_of_mem _ hx))
  exact this h f
end
theorem kn_raiseY {tm : Bool} {C : Addr} {fs : List Str} {W : WX} {ta : TA} {D : Ends} (w : Wa fr Γ Θ ta fun ps Θ1 => ps.length = fs.length ∧ (tm = true → ∃ z r, ps = iz yS z :: r ∧ z.length ≤ 1000) ∧ Kr fr Γ Θ1 W ⟨C, (fs.zip ps).reverse⟩) : Kn fr Γ Θ (tRaiseE tm C fs W ta D) := fun σ F H ok env =>
  w σ F H ok env _ fun ps Θ1 ⟨hl, ht, k⟩ vs F1 H1 s1 ok1 hps => by
    refine ⟨by rw [← Paired.len hps]; exact hl, fun h => ?_, fun d nd => ?_⟩
    · obtain ⟨z, r, e, hz⟩ := ht h
      subst e
      cases hps with
      | cons a b => exact ⟨z, _, by rw [a.1.1], hz⟩
    · have s2 := ok1.sameF (o := .xd (fs.zip vs).reverse) nd
      exact k σ _ _ (ok1.new nd) ((env.mono s1).mono s2) d _ upd_same (Paired.rev (zip_ok (fs := fs) (ps_mono s2 hps)))
def erW (cs : EK → Addr) : HE → Er
  | .tooMany k l => ⟨cs .tooMany, [("limit", iz zI l), ("kind", iz yS k)]⟩
  | .badWord w => ⟨cs .badWord, [("word", iz yS w)]⟩
  | .double n => ⟨cs .double, [("name", iz yS n)]⟩
  | .badNumber n => ⟨cs .badNumber, [("number", iz zI n)]⟩
  | .empty n => ⟨cs .empty, [("name", iz yS n)]⟩
  | .unknown n => ⟨cs .unknown, [("name", iz yS n)]⟩
  | .inUse n => ⟨cs .inUse, [("name", iz yS n)]⟩
  | .badState ns => ⟨cs .badState, [("numbers", iz (yT zI) ns)]⟩
  | .notReady s p i => ⟨cs .notReady, [("at", iz zI i), ("place", iz yS p), ("step", iz yS s)]⟩
  | .notSound d => ⟨cs .notSound, [("paper", iz yX d)]⟩
  | .badPair n => ⟨cs .badPair, [("name", iz yS n)]⟩
  | .badText n => ⟨cs .badText, [("line_number", iz zI n)]⟩
  | .noUndo => ⟨cs .noUndo, []⟩
instance : Dat yS := ⟨PyData.str, 0, fun h => Dat.dp (r := zS) h.1, fun h => Dat.ok (r := zS) h.1, fun x => Dat.dl (r := zS) x, fun h => Dat.inj (r := zS) h⟩
instance {α : Type} {r : Rep α} [d : Dat r] : Dat (yL r) := ⟨Dat.enc (zL r), Dat.dep (zL r), fun h => Dat.dp (r := zL r) h.1, fun h => Dat.ok (r := zL r) h.1, fun x => Dat.dl (r := zL r) x, fun h => Dat.inj (r := zL r) h⟩
instance {α : Type} [TNar α] {r : Rep α} [d : Dat r] : Dat (yT r) := ⟨Dat.enc (zT r), Dat.dep (zT r), fun h => Dat.dp (r := zT r) h.1, fun h => Dat.ok (r := zT r) h.1, fun x => Dat.dl (r := zT r) x, fun h => Dat.inj (r := zT r) h⟩
end
section
variable {P : Program} {w : World} {K : PySem.W.Frag} {mg : Str → Option Value} {base : Heap} {x m qual : Str} {C : Addr} {st : Stmt} {N ps : List Str} {k : Nat} {α β : Type} {ef : HE → Er} {args : α → List Vp} {r : Rep β} {md : α → DM β}
theorem Src.okW (F : Src K mg x st ps) (S : FnScope N ps (defScope st)) (len : ∀ x, (args x).length = ps.length)
    (hbody : ∀ (f : Addr) (cdv : Value) (A : Around) (outer : List Env) (s : Shared) (H : Hp) (E : XK) (a : α) (Q : β → Prop) (X : HE → Prop), Room k (A.deeper (envOfC x (defScope st) s.heap.objs.size f cdv)) → md a Q X →
      ∃ t, PSs (cxOf CX0 P w K mg base N x (defScope st) f cdv A outer s H E).nox (defBody st) t ∧ ∀ fr Qv, RetW fr Qv r Q → Kn fr (envOf N (args a)) [] (t { nx := fun _ H' => Qv .non H', rt := Qv })) : Def P w K mg base CX0 (k + 1) x ps (spA (preW ef args r md)) :=
  F.okA S (fun qs out err ⟨a, Q, X, e, _⟩ => by rw [e]; exact len a) fun f cdv A outer s H E qs out err hr ⟨a, Q, X, e1, h, e2, e3⟩ => by
    subst e1 e2 e3
    obtain ⟨t, ht, hk⟩ := hbody f cdv A outer s H E a Q X hr h
    exact ⟨t, ht, fun fr Qv hret => hk fr Qv fun y hy Θ => hret _ ⟨y, hy, rfl⟩ Θ⟩
theorem Src.okWX (F : Src K mg x st ps) (S : FnScope N ps (defScope st)) (len : ∀ x, (args x).length = ps.length)
    (hbody : ∀ (f : Addr) (cdv : Value) (A : Around) (outer : List Env) (s : Shared) (H : Hp) (E : XK) (a : α) (Q : β → Prop) (X : HE → Prop), Room k (A.deeper (envOfC x (defScope st) s.heap.objs.size f cdv)) → md a Q X →
      ∃ t, PSs (cxOf (L2.CX P w) P w K mg base N x (defScope st) f cdv A outer s H E) (defBody st) t ∧ ∀ fr Qv, RetW fr Qv r Q → RseW fr E ef X → Kn fr (envOf N (args a)) [] (t { nx := fun _ H' => Qv .non H', rt := Qv })) : Def P w K mg base (L2.CX P w) (k + 1) x ps (spA (preW ef args r md)) :=
  F.okAX S (fun qs out err ⟨a, Q, X, e, _⟩ => by rw [e]; exact len a) fun f cdv A outer s H E qs out err hr ⟨a, Q, X, e1, h, e2, e3⟩ => by
    subst e1 e2 e3
    obtain ⟨t, ht, hk⟩ := hbody f cdv A outer s H E a Q X hr h
    exact ⟨t, ht, fun fr Qv hret hrse => hk fr Qv (fun y hy Θ => hret _ ⟨y, hy, rfl⟩ Θ) fun z hz Γ Θ => kr_E hrse ⟨z, hz, rfl⟩⟩
theorem SrcM.okW (F : SrcM K C m qual st ps) (S : FnScope N ps (defScope st)) (len : ∀ x, (args x).length = ps.length)
    (hbody : ∀ (f : Addr) (cdv : Value) (A : Around) (outer : List Env) (s : Shared) (H : Hp) (E : XK) (a : α) (Q : β → Prop) (X : HE → Prop), Room k (A.deeper (envOfC qual (defScope st) s.heap.objs.size f cdv)) → md a Q X →
      ∃ t, PSs (cxOf CX0 P w K mg base N qual (defScope st) f cdv A outer s H E).nox (defBody st) t ∧ ∀ fr Qv, RetW fr Qv r Q → Kn fr (envOf N (args a)) [] (t { nx := fun _ H' => Qv .non H', rt := Qv })) : DefM P w K mg base CX0 (k + 1) C m ps (spA (preW ef args r md)) :=
  F.okA S (fun qs out err ⟨a, Q, X, e, _⟩ => by rw [e]; exact len a) fun f cdv A outer s H E qs out err hr ⟨a, Q, X, e1, h, e2, e3⟩ => by
    subst e1 e2 e3
    obtain ⟨t, ht, hk⟩ := hbody f cdv A outer s H E a Q X hr h
    exact ⟨t, ht, fun fr Qv hret => hk fr Qv fun y hy Θ => hret _ ⟨y, hy, rfl⟩ Θ⟩
theorem SrcM.okWX (F : SrcM K C m qual st ps) (S : FnScope N ps (defScope st)) (len : ∀ x, (args x).length = ps.length)
    (hbody : ∀ (f : Addr) (cdv : Value) (A : Around) (outer : List Env) (s : Shared) (H : Hp) (E : XK) (a : α) (Q : β → Prop) (X : HE → Prop), Room k (A.deeper (envOfC qual (defScope st) s.heap.objs.size f cdv)) → md a Q X →
      ∃ t, PSs (cxOf (L2.CX P w) P w K mg base N qual (defScope st) f cdv A outer s H E) (defBody st) t ∧ ∀ fr Qv, RetW fr Qv r Q → RseW fr E ef X → Kn fr (envOf N (args a)) [] (t { nx := fun _ H' => Qv .non H', rt := Qv })) : DefM P w K mg base (L2.CX P w) (k + 1) C m ps (spA (preW ef args r md)) :=
  F.okAX S (fun qs out err ⟨a, Q, X, e, _⟩ => by rw [e]; exact len a) fun f cdv A outer s H E qs out err hr ⟨a, Q, X, e1, h, e2, e3⟩ => by
    subst e1 e2 e3
    obtain ⟨t, ht, hk⟩ := hbody f cdv A outer s H E a Q X hr h
    exact ⟨t, ht, fun fr Qv hret hrse => hk fr Qv (fun y hy Θ => hret _ ⟨y, hy, rfl⟩ Θ) fun z hz Γ Θ => kr_E hrse ⟨z, hz, rfl⟩⟩
end
end L2
set_option Elab.async false
set_option linter.all false
set_option maxRecDepth 100000
set_option maxHeartbeats 4000000
namespace L2
open PySem PySem.Spec PyProof.Rows PySem.HErr
def optD {α : Type} (o : Option α) (A : Prop) (B : α → Prop) : Prop := (o = none → A) ∧ ∀ y, o = some y → B y
section
variable {fr fr' : Fr} {Γ Γ' : Gam} {Θ Θ' : List Cel} {F F' H H' : Hp} {K : Vp → List Cel → Prop} {Qv : VK}
theorem wt_andP {K : Bool → List Cel → Prop} {t u : TT} (w : Wt fr Γ Θ t fun b Θ1 => ∃ c, (b = true → Et fr Γ Θ1 u c) ∧ K (b && c) Θ1) : Wt fr Γ Θ (tAnd t u) K :=
  wt_andC fun σ F H ok env Q q => w σ F H ok env Q fun b Θ1 ⟨c, h1, k⟩ => q b Θ1 ⟨fun e σ F H ok env Q q => h1 e σ F H ok env Q fun c' Θ' ⟨e1, e2⟩ => q c' Θ' (by
    subst e1 e2 e
    exact k), fun e => by
    subst e
    exact k⟩
theorem wt_orP {K : Bool → List Cel → Prop} {t u : TT} (w : Wt fr Γ Θ t fun b Θ1 => ∃ c, (b = false → Et fr Γ Θ1 u c) ∧ K (b || c) Θ1) : Wt fr Γ Θ (tOr t u) K :=
  wt_orC fun σ F H ok env Q q => w σ F H ok env Q fun b Θ1 ⟨c, h1, k⟩ => q b Θ1 ⟨fun e σ F H ok env Q q => h1 e σ F H ok env Q fun c' Θ' ⟨e1, e2⟩ => q c' Θ' (by
    subst e1 e2 e
    exact k), fun e => by
    subst e
    exact k⟩
theorem we_andP {t u : TE} (w : We fr Γ Θ t fun p Θ1 => ∃ b c, p = iz zB b ∧ (b = true → Ev fr Γ Θ1 u (iz zB c)) ∧ K (iz zB (b && c)) Θ1) : We fr Γ Θ (tAndV t u) K :=
  we_andC (w.imp fun p Θ1 ⟨b, c, e, h1, k⟩ => ⟨b, e, fun e => (h1 e).imp fun p Θ' ⟨e1, e2⟩ => by
    subst e1 e2 e
    exact k, fun e => by
    subst e
    exact k⟩)
theorem we_ifP {α : Type} {r : Rep α} {c : TT} {ta tb : TE} (w : Wt fr Γ Θ c fun b Θ1 => ∃ x y, (b = true → Ev fr Γ Θ1 ta (iz r x)) ∧ (b = false → Ev fr Γ Θ1 tb (iz r y)) ∧ K (iz r (bif b then x else y)) Θ1) : We fr Γ Θ (tIf c ta tb) K :=
  we_if fun σ F H ok env Q q => w σ F H ok env Q fun b Θ1 ⟨x, y, h1, h2, k⟩ => q b Θ1 ⟨fun e => (h1 e).imp fun p Θ' ⟨e1, e2⟩ => by
    subst e1 e2 e
    exact k, fun e => (h2 e).imp fun p Θ' ⟨e1, e2⟩ => by
    subst e1 e2 e
    exact k⟩
instance : NotNon yS := ⟨fun F v x h => by rw [h.1.1]; exact fun q => by cases q⟩
instance {α : Type} {r : Rep α} : NotNon (yL r) := ⟨fun F v x h => NotNon.nn (r := zL r) F v x h.1⟩
instance {α : Type} [TNar α] {r : Rep α} : NotNon (yT r) := ⟨fun F v x h => NotNon.nn (r := zT r) F v x h.1⟩
instance {α : Type} {r : Rep α} : NotNon (yD r) := ⟨fun F v x ⟨⟨a, kvs, h, _⟩, _⟩ => by rw [h]; exact fun q => by cases q⟩
instance {α β : Type} {r : Rep α} {s : Rep β} : NotNon (zLp r s) := ⟨fun F v x ⟨a, u, w, h, _⟩ => by rw [h]; exact fun q => by cases q⟩
instance {α β γ δ : Type} {r : Rep α} {s : Rep β} {t : Rep γ} {u : Rep δ} : NotNon (z4 r s t u) := ⟨fun F v x ⟨a, v1, v2, v3, v4, h, _⟩ => by rw [h]; exact fun q => by cases q⟩
instance {C : Addr} : NotNon (zPlan C) := ⟨fun F v x ⟨a, h, _⟩ => by rw [h]; exact fun q => by cases q⟩
theorem oy_isO {α : Type} {r : Rep α} [NotNon r] {o : Option α} (k : K (iz zB o.isNone) Θ) : Ops fr Θ (fun x y H Q => y = .non ∧ Q (.bl (decide (x = .non))) H) (iz (yO r) o) (iz yN ()) K := fun F H v w ok hv hw Q q => by
  refine ⟨hw, q.go k ok ?_⟩
  show V.bl _ = V.bl _
  cases o with
  | none => rw [show v = .non from hv]; rfl
  | some x => rw [decide_eq_false (NotNon.nn F v x hv)]; rfl
theorem optK {α : Type} {o : Option α} {A : Prop} {B : α → Prop} {G1 G2 : Prop} (h : optD o A B) (h1 : o = none → A → G1) (h2 : ∀ y, o = some y → B y → G2) : (o.isNone = true → G1) ∧ (o.isNone = false → G2) := by
  cases o with
  | none => exact ⟨fun _ => h1 rfl (h.1 rfl), (fun e => by cases e)⟩
  | some y => exact ⟨(fun e => by cases e), fun _ => h2 y rfl (h.2 y rfl)⟩
theorem le_Os {α : Type} {r : Rep α} {x : α} : (iz r x).Le (iz (yO r) (some x)) := fun F v h => h
theorem le_On {α : Type} {r : Rep α} : (iz yN ()).Le (iz (yO r) none) := fun F v h => h
theorem kn_asgL {α : Type} {r : Rep α} {te : TE} {i : Nat} {D : Ends} (w : We fr Γ Θ te fun p Θ1 => ∃ v : α, p = iz r v ∧ ∀ v', v' = v → Kn fr (Γ.set i (some (iz r v'))) Θ1 D.nx) : Kn fr Γ Θ (tAsg te (gName i) D) := kn_asg (w.imp fun p Θ1 ⟨v, e, k⟩ => by
  subst e
  exact k v rfl)
theorem intsF_big {n : Int} (h : n ≤ 100000) : (intsF 0 n.toNat).length ≤ big := by
  rw [intsF_len]
  have : big = 100000 := rfl
  omega
end
end L2
set_option Elab.async false
set_option linter.all false
set_option maxRecDepth 100000
set_option maxHeartbeats 4000000
namespace L2
open PySem PySem.Spec PyProof.Rows PySem.HErr
section
variable {fr fr' : Fr} {Γ Γ' : Gam} {Θ Θ' : List Cel} {F F' H H' : Hp} {K : Vp → List Cel → Prop} {Qv : VK}
theorem depth_mem {ds : List PyData} {d : PyData} {n : Nat} (h : PyData.depthAll ds ≤ n) (hd : d ∈ ds) : d.depth ≤ n := by
  induction ds with
  | nil => cases hd
  | cons a l ih =>
    simp only [PyData.depthAll] at h
    rcases List.mem_cons.mp hd with rfl | hd
    · omega
    · exact ih (by omega) hd
theorem xpAll_pvs : ∀ {ds : List PyData} {vs : List V}, xpAll F ds vs → (∀ d ∈ ds, d.depth ≤ 60) → PVs yX F vs ds
  | [], _, h, _ => by simp only [xpAll] at h; subst h; exact .nil
  | d :: ds, _, h, hd => by
    simp only [xpAll] at h
    obtain ⟨v, r, rfl, h2, h3⟩ := h
    exact .cons ⟨h2, hd d (List.mem_cons_self ..)⟩ (xpAll_pvs h3 fun x hx => hd x (List.mem_cons_of_mem _ hx))
class XDat {α : Type} (r : Rep α) where
  enc : α → PyData
  dep : Nat
  xd : ∀ {F : Hp} {v : V} {x : α}, r.p F v x → xp F (enc x) v ∧ (enc x).depth ≤ dep
instance : XDat yX := ⟨id, 60, fun h => h⟩
instance : XDat zI := ⟨PyData.int, 0, fun h => by simp only [xp, PyData.depth]; exact ⟨h, Nat.le_refl _⟩⟩
instance : XDat yN := ⟨fun _ => PyData.none, 0, fun h => by simp only [xp, PyData.depth]; exact ⟨h, Nat.le_refl _⟩⟩
instance : XDat yS := ⟨PyData.str, 0, fun h => by simp only [xp, PyData.depth]; exact ⟨⟨h.1.1, h.1.2, h.2⟩, Nat.le_refl _⟩⟩
theorem xd_all {α : Type} {r : Rep α} [d : XDat r] {vs : List V} {xs : List α} (h : PVs r F vs xs) : xpAll F (xs.map d.enc) vs ∧ PyData.depthAll (xs.map d.enc) ≤ d.dep := by
  induction h with
  | nil => exact ⟨by simp only [List.map_nil, xpAll], by simp only [List.map_nil, PyData.depthAll]; exact Nat.zero_le _⟩
  | cons a _ ih =>
    simp only [List.map_cons, xpAll, PyData.depthAll]
    have := (d.xd a).2
    have := ih.2
    exact ⟨⟨_, _, rfl, (d.xd a).1, ih.1⟩, by omega⟩
instance {α : Type} {r : Rep α} [d : XDat r] : XDat (yL r) := ⟨fun xs => .list (xs.map d.enc), d.dep + 1, fun ⟨⟨a, vs, h1, h2, h3⟩, h4⟩ => by
  have := (xd_all h3).2
  simp only [xp, PyData.depth]
  exact ⟨⟨a, vs, h1, h2, by rw [List.length_map]; exact h4, (xd_all h3).1⟩, by omega⟩⟩
/-- data of these things stand as the things -/
class XNar {α : Type} [TNar α] (r : Rep α) [XDat r] : Prop where
  nx : ∀ xs : List α, TNar.nar xs = true ∨ TNar.nar (xs.map (XDat.enc (r := r))) = TNar.nar xs
instance {α : Type} [TNar α] [TAll α] {r : Rep α} [XDat r] : XNar r := ⟨fun xs => .inl (TAll.all xs)⟩
theorem isSDs_strs (xs : List Str) : isSDs (xs.map PyData.str) = !xs.isEmpty := by
  unfold isSDs
  have : (xs.map PyData.str).all isSD = true := List.all_eq_true.mpr fun x hx => by
    obtain ⟨y, _, rfl⟩ := List.mem_map.mp hx
    rfl
  rw [this, Bool.and_true]
  cases xs <;> rfl
theorem isSDs_no {ds : List PyData} {d : PyData} (h : d ∈ ds) (e : isSD d = false) : isSDs ds = false := by
  unfold isSDs
  rw [show ds.all isSD = false from List.all_eq_false.mpr ⟨d, h, by rw [e]; exact Bool.false_ne_true⟩, Bool.and_false]
instance : XNar yS := ⟨fun xs => .inr (by show (!isSDs (xs.map PyData.str)) = xs.isEmpty; rw [isSDs_strs, Bool.not_not])⟩
instance : XNar yX := ⟨fun xs => .inr (by rw [show (XDat.enc (r := yX)) = id from rfl, List.map_id])⟩
theorem XNar.tup {α : Type} [TNar α] {r : Rep α} [XDat r] [k : XNar r] {F : Hp} {a : Addr} {vs : List V} {xs : List α} (h : TupB (TNar.nar xs) F a vs) : TupB (TNar.nar (xs.map (XDat.enc (r := r)))) F a vs := (k.nx xs).elim (fun e => .inl (h.nar e)) fun e => by rw [e]; exact h
instance {α : Type} [TNar α] {r : Rep α} [d : XDat r] [XNar r] : XDat (yT r) := ⟨fun xs => .tuple (xs.map d.enc), d.dep + 1, fun ⟨⟨a, vs, h1, h2, h3⟩, h4⟩ => by
  have := (xd_all h3).2
  simp only [xp, PyData.depth]
  exact ⟨⟨a, vs, h1, XNar.tup h2, by rw [List.length_map]; exact h4, (xd_all h3).1⟩, by omega⟩⟩
instance {α : Type} {r : Rep α} [d : XDat r] : XDat (z1 r) := ⟨fun x => .tuple [d.enc x], d.dep + 1, fun ⟨a, v1, h1, h2, h3⟩ => by
  have := (d.xd h3).2
  simp only [xp, xpAll, PyData.depth, PyData.depthAll]
  exact ⟨⟨a, _, h1, .inl h2, by show 1 ≤ big; decide, _, _, rfl, (d.xd h3).1, rfl⟩, by omega⟩⟩
instance {α β : Type} {r : Rep α} {s : Rep β} [d : XDat r] [e : XDat s] : XDat (z2 r s) := ⟨fun x => .tuple [d.enc x.1, e.enc x.2], max d.dep e.dep + 1, fun ⟨a, u, w, h1, h2, h3, h4⟩ => by
  have := (d.xd h3).2
  have := (e.xd h4).2
  simp only [xp, xpAll, PyData.depth, PyData.depthAll]
  exact ⟨⟨a, _, h1, .inl h2, by show 2 ≤ big; decide, _, _, rfl, (d.xd h3).1, _, _, rfl, (e.xd h4).1, rfl⟩, by omega⟩⟩
instance {α β γ : Type} {r : Rep α} {s : Rep β} {t : Rep γ} [d : XDat r] [e : XDat s] [f : XDat t] : XDat (z3 r s t) := ⟨fun x => .tuple [d.enc x.1, e.enc x.2.1, f.enc x.2.2], max d.dep (max e.dep f.dep) + 1, fun ⟨a, u, w, z, h1, h2, h3, h4, h5⟩ => by
  have := (d.xd h3).2
  have := (e.xd h4).2
  have := (f.xd h5).2
  simp only [xp, xpAll, PyData.depth, PyData.depthAll]
  exact ⟨⟨a, _, h1, .inl h2, by show 3 ≤ big; decide, _, _, rfl, (d.xd h3).1, _, _, rfl, (e.xd h4).1, _, _, rfl, (f.xd h5).1, rfl⟩, by omega⟩⟩
instance {α β γ δ : Type} {r : Rep α} {s : Rep β} {t : Rep γ} {u : Rep δ} [d : XDat r] [e : XDat s] [f : XDat t] [g : XDat u] : XDat (z4 r s t u) := ⟨fun x => .tuple [d.enc x.1, e.enc x.2.1, f.enc x.2.2.1, g.enc x.2.2.2], max (max d.dep e.dep) (max f.dep g.dep) + 1, fun ⟨a, v1, v2, v3, v4, h1, h2, h3, h4, h5, h6⟩ => by
  have := (d.xd h3).2
  have := (e.xd h4).2
  have := (f.xd h5).2
  have := (g.xd h6).2
  simp only [xp, xpAll, PyData.depth, PyData.depthAll]
  exact ⟨⟨a, _, h1, .inl h2, by show 4 ≤ big; decide, _, _, rfl, (d.xd h3).1, _, _, rfl, (e.xd h4).1, _, _, rfl, (f.xd h5).1, _, _, rfl, (g.xd h6).1, rfl⟩, by omega⟩⟩
instance {α β : Type} {r : Rep α} {s : Rep β} [d : XDat r] [e : XDat s] : XDat (zLp r s) := ⟨fun x => .list [d.enc x.1, e.enc x.2], max d.dep e.dep + 1, fun ⟨a, u, w, h1, h2, h3, h4⟩ => by
  have := (d.xd h3).2
  have := (e.xd h4).2
  simp only [xp, xpAll, PyData.depth, PyData.depthAll]
  exact ⟨⟨a, _, h1, h2, by show 2 ≤ big; decide, _, _, rfl, (d.xd h3).1, _, _, rfl, (e.xd h4).1, rfl⟩, by omega⟩⟩
instance {α β γ : Type} {r : Rep α} {s : Rep β} {t : Rep γ} [d : XDat r] [e : XDat s] [f : XDat t] : XDat (zL3 r s t) := ⟨fun x => .list [d.enc x.1, e.enc x.2.1, f.enc x.2.2], max d.dep (max e.dep f.dep) + 1, fun ⟨a, u, w, z, h1, h2, h3, h4, h5⟩ => by
  have := (d.xd h3).2
  have := (e.xd h4).2
  have := (f.xd h5).2
  simp only [xp, xpAll, PyData.depth, PyData.depthAll]
  exact ⟨⟨a, _, h1, h2, by show 3 ≤ big; decide, _, _, rfl, (d.xd h3).1, _, _, rfl, (e.xd h4).1, _, _, rfl, (f.xd h5).1, rfl⟩, by omega⟩⟩
instance {α : Type} {r : Rep α} [d : XDat r] : XDat (yO r) := ⟨fun o => match o with | none => .none | some x => d.enc x, d.dep, fun {F v x} h => by
  cases x with
  | none => simp only [xp, PyData.depth]; exact ⟨h, Nat.zero_le _⟩
  | some y => exact d.xd h⟩
theorem le_XT {x : PyData} {ds : List PyData} (e : x = .tuple ds) : (iz yX x).Le (iz (yT yX) ds) := fun F v h => by
  subst e
  obtain ⟨h, hd⟩ := h
  simp only [xp] at h
  simp only [PyData.depth] at hd
  obtain ⟨a, vs, h1, h2, h3, h4⟩ := h
  exact ⟨⟨a, vs, h1, h2, xpAll_pvs h4 fun d hm => depth_mem (n := 60) (by omega) hm⟩, h3⟩
mutual
theorem xp_dp {Kf : PySem.W.Frag} : ∀ (d : PyData) (v : V), xp F d v → Dp Kf F v d ∧ nb d = true
  | .none, _, h => by simp only [xp] at h; subst h; exact ⟨.non, rfl⟩
  | .int _, _, h => by simp only [xp] at h; subst h; exact ⟨.int _, rfl⟩
  | .str _, _, h => by
    simp only [xp] at h
    obtain ⟨rfl, h2, _⟩ := h
    exact ⟨.str _, h2.ok⟩
  | .bool _, _, h => by simp only [xp] at h
  | .dict _, _, h => by simp only [xp] at h
  | .list ds, _, h => by
    simp only [xp] at h
    obtain ⟨a, vs, rfl, h2, _, h4⟩ := h
    obtain ⟨g1, g2⟩ := xpAll_dp (Kf := Kf) ds vs h4
    exact ⟨.lst (SqL.of h2) g1, g2⟩
  | .tuple ds, _, h => by
    simp only [xp] at h
    obtain ⟨a, vs, rfl, h2, _, h4⟩ := h
    obtain ⟨g1, g2⟩ := xpAll_dp (Kf := Kf) ds vs h4
    exact ⟨.tup (h2.sq (Same.refl _)) g1, g2⟩
theorem xpAll_dp {Kf : PySem.W.Frag} : ∀ (ds : List PyData) (vs : List V), xpAll F ds vs → DpAll Kf F vs ds ∧ nbAll ds = true
  | [], _, h => by simp only [xpAll] at h; subst h; exact ⟨.nil, rfl⟩
  | d :: ds, _, h => by
    simp only [xpAll] at h
    obtain ⟨v, r, rfl, h2, h3⟩ := h
    obtain ⟨g1, g2⟩ := xp_dp (Kf := Kf) d v h2
    obtain ⟨g3, g4⟩ := xpAll_dp (Kf := Kf) ds r h3
    exact ⟨.cons g1 g3, by show (nb d && nbAll ds) = true; rw [g2, g4]; rfl⟩
end
/-- papers: data that is a tuple -/
def pit : PyData → List PyData
  | .tuple ds => ds
  | _ => []
def yP : Rep PyData := ⟨fun F v d => (xp F d v ∧ d.depth ≤ 60) ∧ d = .tuple (pit d), fun e h => ⟨⟨xp_mono e _ _ h.1.1, h.1.2⟩, h.2⟩⟩
class PDat {α : Type} (r : Rep α) [d : XDat r] : Prop where
  t : ∀ x, d.enc x = .tuple (pit (d.enc x))
instance {α : Type} {r : Rep α} [XDat r] : PDat (z1 r) := ⟨fun _ => rfl⟩
instance {α : Type} [TNar α] {r : Rep α} [XDat r] [XNar r] : PDat (yT r) := ⟨fun _ => rfl⟩
instance {α β : Type} {r : Rep α} {s : Rep β} [XDat r] [XDat s] : PDat (z2 r s) := ⟨fun _ => rfl⟩
instance {α β γ : Type} {r : Rep α} {s : Rep β} {t : Rep γ} [XDat r] [XDat s] [XDat t] : PDat (z3 r s t) := ⟨fun _ => rfl⟩
instance {α β γ δ : Type} {r : Rep α} {s : Rep β} {t : Rep γ} {u : Rep δ} [XDat r] [XDat s] [XDat t] [XDat u] : PDat (z4 r s t u) := ⟨fun _ => rfl⟩
theorem le_PT {x : PyData} : (iz yP x).Le (iz (yT yX) (pit x)) := fun F v h => le_XT h.2 F v h.1
instance : XDat yP := ⟨id, 60, fun h => h.1⟩
instance : NotNon yP := ⟨fun F v x h q => by
  obtain ⟨⟨a, vs, h1, _⟩, _⟩ := le_PT F v h
  rw [q] at h1
  cases h1⟩
end
end L2
set_option Elab.async false
set_option linter.all false
set_option maxRecDepth 100000
set_option maxHeartbeats 4000000
namespace L2
open PySem PySem.Spec PyProof.Rows PySem.HErr
section
variable {fr fr' : Fr} {Γ Γ' : Gam} {Θ Θ' : List Cel} {F F' H H' : Hp} {K : Vp → List Cel → Prop} {Qv : VK}
def MkPr (fr : Fr) (Γ : Gam) (Θ : List Cel) (pre : Pre) (E : L2.St → XK) (ps : List Vp) (K : Vp → List Cel → Prop) : Prop := ∃ out err, pre ps out err ∧ (∀ p, out p → K p Θ) ∧ ∀ e, err e → Kr fr Γ Θ (fun cls d σ H => E σ cls d H) e
theorem we_mkP {C : Addr} {pre : Pre} {E : L2.St → XK} {t : TA} (w : Wa fr Γ Θ t fun ps Θ1 => MkPr fr Γ Θ1 pre E ps K) : We fr Γ Θ (tMkD C (spI C pre) E t) K := we_mk w
theorem mkW {α β : Type} {ef : HE → Er} {args : α → List Vp} {r : Rep β} {m : α → DM β} {E : L2.St → XK} {ps : List Vp} {Q : β → Prop} {X : HE → Prop} (x : α) (h : m x Q X) (k : ∀ y, Q y → K (iz r y) Θ) (xx : ∀ z, X z → Kr fr Γ Θ (fun cls d σ H => E σ cls d H) (ef z)) (e : ps = args x := by rfl) : MkPr fr Γ Θ (preW ef args r m) E ps K :=
  ⟨_, _, ⟨x, Q, X, e, h, rfl, rfl⟩, fun p ⟨y, hy, e⟩ => by rw [e]; exact k y hy, fun er ⟨z, hz, e⟩ => by rw [e]; exact xx z hz⟩
theorem mkW0 {α β : Type} {ef : HE → Er} {args : α → List Vp} {r : Rep β} {m : α → DM β} {E : L2.St → XK} {ps : List Vp} {Q : β → Prop} (x : α) (h : m x Q noX) (k : ∀ y, Q y → K (iz r y) Θ) (e : ps = args x := by rfl) : MkPr fr Γ Θ (preW ef args r m) E ps K := mkW x h k (fun z hz => hz.elim) e
theorem mkWE {α β : Type} {ef : HE → Er} {args : α → List Vp} {r : Rep β} {m : α → DM β} {E : XK} {ps : List Vp} {Q : β → Prop} {X : HE → Prop} (hx : RseW fr E ef X) (x : α) (h : m x Q X) (k : ∀ y, Q y → K (iz r y) Θ) (e : ps = args x := by rfl) : MkPr fr Γ Θ (preW ef args r m) (fun _ => E) ps K := mkW x h k (fun z hz => hx z hz Γ Θ) e
end
section
variable {P : Program} {w : World} {K : PySem.W.Frag} {mg : Str → Option Value} {base : Heap} {CX : CXT} {C : Addr} {ps : List Str} {k : Nat} {sp sp' : Sp}
theorem DefI.imp (D : DefI P w K mg base CX k C ps sp) (h : ∀ vs H Q E, sp' vs H Q E → sp vs H Q E) : DefI P w K mg base CX k C ps sp' := by
  obtain ⟨f, fd, hlk, h1, h2, h3⟩ := D.ex
  exact ⟨f, fd, hlk, h1, h2, h3.imp h⟩
end
end L2
set_option Elab.async false
set_option linter.all false
set_option maxRecDepth 100000
set_option maxHeartbeats 4000000
namespace L2
open PySem PySem.Spec PyProof.Rows PySem.HErr
section
variable {X : Cx} {K : PySem.W.Frag} {pos : Pos}
theorem kpg_tup {es : List Expr} {k : Nat} {t : TGs} {n : Nat} (hc : X.calm = true) (h : PGs X es t) (hn : (assignEach es X.env).length = n := by rfl) (hst : (assignEach es X.env).findIdx? (·.1) = none := by rfl) (hK : X.K = K := by rfl) : PG X (.Tuple es k pos) (gTup K n t) := hK ▸ pg_tup hc h hn hst
end
section
variable {fr fr' : Fr} {Γ Γ' : Gam} {Θ Θ' : List Cel} {F F' H H' : Hp} {K : Vp → List Cel → Prop} {Qv : VK}
theorem joinL_len (S : List Nat) : ∀ parts : List (List Nat), (TL.joinL S parts).length ≤ (parts.map List.length).sum + parts.length * S.length
  | [] => by simp [TL.joinL]
  | [p] => by
    show p.length ≤ _
    simp
  | p :: q :: r => by
    have := joinL_len S (q :: r)
    show (p ++ (S ++ TL.joinL S (q :: r))).length ≤ _
    rw [List.length_append, List.length_append, List.map_cons, List.sum_cons, List.length_cons, Nat.succ_mul]
    omega
theorem joinL_mem (S : List Nat) (c : Nat) : ∀ parts : List (List Nat), c ∈ TL.joinL S parts → c ∈ S ∨ ∃ p ∈ parts, c ∈ p
  | [], h => by cases h
  | [p], h => .inr ⟨p, List.mem_cons_self .., h⟩
  | p :: q :: r, h => by
    rcases List.mem_append.mp h with h | h
    · exact .inr ⟨p, List.mem_cons_self .., h⟩
    · rcases List.mem_append.mp h with h | h
      · exact .inl h
      · rcases joinL_mem S c (q :: r) h with h | ⟨p, hp, h⟩
        · exact .inl h
        · exact .inr ⟨p, List.mem_cons_of_mem _ hp, h⟩
theorem join_cps (y : Str) (parts : List Str) : (Txt.join y parts).cps.toList = TL.joinL y.cps.toList (parts.map fun p => p.cps.toList) := by
  have := TL.tl_join y parts
  rw [← TL.join_eq] at this
  exact this
theorem join_len (y : Str) (parts : List Str) : (Txt.join y parts).length ≤ (parts.map (·.length)).sum + parts.length * y.length := by
  show (Txt.join y parts).cps.toList.length ≤ _
  rw [join_cps]
  have := joinL_len y.cps.toList (parts.map fun p => p.cps.toList)
  rw [List.length_map, List.map_map] at this
  exact this
theorem join_asc {y : Str} {parts : List Str} (hy : Asc y) (hp : ∀ p ∈ parts, Asc p) : Asc (Txt.join y parts) := fun c hc => by
  rw [join_cps] at hc
  rcases joinL_mem _ _ _ hc with h | ⟨p, h1, h2⟩
  · exact hy c h
  · obtain ⟨q, hq, rfl⟩ := List.mem_map.mp h1
    exact hp q hq c h2
theorem tyl_yS {x : Str} {Kf : PySem.W.Frag} : ∀ F H v, OkF fr Θ F H → (iz yS x).p F v → tyV Kf "str" v H := fun F H v ok h => tyl_S F H v ok h.1
theorem my_join {Kf : PySem.W.Frag} {xs : List Str} {x : Str} (hs : (xs.map (·.length)).sum + xs.length * x.length ≤ big) (k : K (iz yS (Txt.join x xs)) Θ) : Mts fr Θ (fun x xs H Q => ∃ a p, ∃ ys : List Str, x = .str a ∧ xs = [.ref p] ∧ (SqL Kf H p (ys.map V.str) ∨ SqT Kf H p (ys.map V.str)) ∧
    (ys.map (·.length)).sum + ys.length * a.length ≤ 16777216 ∧ Q (.str (Txt.join a ys)) H) (iz yS x) [iz (yL yS) xs] K := fun F H v vs ok hv hps Q q => by
  cases hps with
  | cons h1 hp => cases hp with
    | nil =>
      obtain ⟨⟨a, us, rfl, h2, h3⟩, _⟩ := h1
      have h4 : PVs zS F us xs := Paired.imp2 (fun _ _ h => h.1) h3
      obtain ⟨rfl, hA⟩ := pvs_S h4
      obtain ⟨⟨rfl, hx⟩, _⟩ := hv
      exact ⟨x, a, xs, rfl, rfl, .inl (SqL.of (ok.fh _ _ h2)), Nat.le_trans hs (by decide), q.go k ok ⟨⟨rfl, join_asc hx hA⟩, Nat.le_trans (join_len x xs) hs⟩⟩
end
end L2
set_option Elab.async false
set_option linter.all false
set_option maxRecDepth 100000
set_option maxHeartbeats 4000000
namespace L2
open PySem PySem.Spec PyProof.Rows PySem.HErr
section
variable {α β S : Type}
/-- a loop that lets all pass -/
theorem forD_all {body : α → S → (S → Prop) → (S → Prop) → Prop} {after : S → Prop} {s : S} : ∀ {xs : List α}, (∀ x ∈ xs, ∀ nx, nx s → body x s nx after) → after s → forD xs s body after
  | [], _, h => h
  | x :: xs, hb, h => hb x (List.mem_cons_self ..) _ (forD_all (fun y hy => hb y (List.mem_cons_of_mem _ hy)) h)
theorem whileD_inv {step : S → (S → Prop) → (S → Prop) → Prop} {after : S → Prop} {s : S} (I : S → Prop) (μ : S → Nat) (h0 : I s) (hs : ∀ s nx, I s → (∀ s', I s' → μ s' < μ s → nx s') → step s nx after) : whileD s step after := by
  have key : ∀ (n : Nat) (s : S), I s → μ s < n → whileN n s step after := by
    intro n
    induction n with
    | zero => intro s _ h; omega
    | succ n ih => intro s h hm; exact hs s _ h fun s' h' hl => ih s' h' (by omega)
  exact ⟨_, key (μ s + 1) s h0 (Nat.lt_succ_self _)⟩
theorem mapD_ok {f : α → (β → Prop) → Prop} {k : List β → Prop} (g : α → β) : ∀ {xs : List α} {acc : List β}, (∀ x ∈ xs, ∀ k, k (g x) → f x k) → k (acc ++ xs.map g) → mapD xs acc f k
  | [], acc, _, h => by simpa [mapD] using h
  | x :: xs, acc, hf, h => hf x (List.mem_cons_self ..) _ (mapD_ok g (fun y hy => hf y (List.mem_cons_of_mem _ hy)) (by simpa using h))
theorem mapD_inv {f : α → (β → Prop) → Prop} {k : List β → Prop} (R : α → β → Prop) : ∀ {xs : List α} {acc : List β}, (∀ x ∈ xs, ∀ k, (∀ y, R x y → k y) → f x k) → (∀ ys, Paired R xs ys → k (acc ++ ys)) → mapD xs acc f k
  | [], acc, _, h => by simpa [mapD] using h [] .nil
  | x :: xs, acc, hf, h => hf x (List.mem_cons_self ..) _ fun y hy => mapD_inv R (fun z hz => hf z (List.mem_cons_of_mem _ hz)) fun ys hys => by
    have := h (y :: ys) (.cons hy hys)
    simpa using this
theorem ifD_t {c : Bool} {A B : Prop} (e : c = true) (h : A) : ifD c A B := ⟨fun _ => h, fun f => by rw [e] at f; cases f⟩
theorem ifD_f {c : Bool} {A B : Prop} (e : c = false) (h : B) : ifD c A B := ⟨(fun f => by rw [e] at f; cases f), fun _ => h⟩
end
end L2
set_option Elab.async false
set_option linter.all false
set_option maxRecDepth 100000
set_option maxHeartbeats 4000000
namespace L2
open PySem PySem.Spec PyProof.Rows PySem.HErr
/-- the box at b: the script's copy at l, then ints -/
def cBg (b l : Addr) (ns is : List Int) : Cel := ⟨b, true, fun F o => o = .lst (.ref l :: is.map V.int) ∧ F l = some (.lst (ns.map V.int)) ∧ ns.length ≤ big, fun e ⟨h1, h2, h3⟩ => ⟨h1, e _ _ h2, h3⟩, fun h e => by subst e; simp at h⟩
def cBag (t : Nat) (b l : Addr) : Cel := ⟨b, true, fun F o => ∃ (ns is : List Int), is.length = t ∧ (∀ i, is[0]? = some i → 0 ≤ i) ∧ (cBg b l ns is).φ F o, fun e ⟨ns, is, h1, h2, h3⟩ => ⟨ns, is, h1, h2, (cBg b l ns is).mono e h3⟩, fun ⟨ns, is, _, _, h⟩ e => (cBg b l ns is).nt h e⟩
abbrev BKind := Addr → Addr → Cel
def preK (mk : BKind) (q : PreB) : PreC := fun ps Θ out err => ∃ b l qs o, ps = zAt b :: qs ∧ Θ = [mk b l] ∧ q qs o ∧ out = (fun p Θ' => o p ∧ Θ' = [mk b l]) ∧ err = fun _ _ => False
def RetKW {β : Type} (mk : BKind) (fr : Fr) (b l : Addr) (Qv : VK) (r : Rep β) (Q : β → Prop) : Prop := ∀ y, Q y → ∀ Θ, mk b l ∈ Θ → Rt fr Θ Qv (iz r y)
section
variable {mk : BKind} {fr fr' : Fr} {Γ Γ' : Gam} {Θ Θ' : List Cel} {F F' H H' : Hp} {K : Vp → List Cel → Prop} {Qv : VK}
theorem RetKW.fine {β : Type} {b l : Addr} {r : Rep β} {Q : β → Prop} (h : RetKW mk fr b l Qv r Q) (le : FrLe fr fr') : RetKW mk fr' b l Qv r Q := fun y hy Θ hc => (h y hy Θ hc).fine le
theorem sps_K {q : PreB} {E : L2.St → XK} {b l : Addr} {qs : List Vp} {o : Vp → Prop} (hc : mk b l ∈ Θ) (hq : q qs o) (k : ∀ p, o p → K p Θ) : Sps fr Γ Θ (spC (preK mk q)) E (zAt b :: qs) K := fun σ F H vs ok env hps Q kq => by
  obtain ⟨Θr, pm⟩ := perm_of_mem hc
  have ok1 := ok.perm pm
  exact ⟨F, _, [mk b l], _, _, ok1.fh, ok1.cellsAt, hps, ⟨b, l, qs, o, rfl, rfl, hq, rfl, rfl⟩, fun p Θ' ⟨ho, hΘ⟩ v F' H' ef h => by
    subst hΘ
    exact kq p Θ (k p ho) v F' H' ef.ff ((ok1.eff ef).perm pm.symm) h, fun e Θ' he => he.elim⟩
theorem sps_KW {α β : Type} {args : α → List Vp} {r : Rep β} {m : α → DM β} {E : L2.St → XK} {ps : List Vp} {Q : β → Prop} {b l : Addr} {j : Nat} (hj : Θ[j]? = some (mk b l)) (x : α) (h : m x Q noX) (k : ∀ y, Q y → K (iz r y) Θ) (e : ps = zAt b :: args x := by rfl) : Sps fr Γ Θ (spC (preK mk (preBW args r m))) E ps K := by
  subst e
  exact sps_K (List.mem_of_getElem? hj) ⟨x, Q, rfl, h, rfl⟩ fun p ⟨y, hy, e⟩ => by rw [e]; exact k y hy
theorem OkF.recell {c c' : Cel} {j : Nat} (k : OkF fr Θ F H) (hj : Θ[j]? = some c) (ha : c'.a = c.a) (ho : c'.own = c.own) (h : ∀ o, c.φ F o → c'.φ F o) : OkF fr (Θ.set j c') F H := by
  obtain ⟨_, ⟨o, h2, h3⟩, _⟩ := k.ce c (List.mem_of_getElem? hj)
  have := k.mut (c' := c') (o := o) hj ha ho (h o h3)
  have e : upd H c.a o = H := by
    funext a
    by_cases q : a = c.a
    · rw [q, upd_same, h2]
    · rw [upd_ne q]
  rw [e] at this
  exact this
theorem kn_bag {t : Nat} {b l : Addr} {j : Nat} {P : L2.St → Hp → Prop} (hj : Θ[j]? = some (cBag t b l)) (k : ∀ (ns is : List Int), is.length = t → (∀ i, is[0]? = some i → 0 ≤ i) → Kn fr Γ (Θ.set j (cBg b l ns is)) P) : Kn fr Γ Θ P := fun σ F H ok env => by
  obtain ⟨_, ⟨o, h2, ns, is, h3, h4, h5⟩, _⟩ := ok.ce _ (List.mem_of_getElem? hj)
  obtain ⟨h6, h7, h8⟩ := h5
  subst h6
  have := ok.mut (c' := cBg b l ns is) (o := .lst (.ref l :: is.map V.int)) hj rfl rfl ⟨rfl, h7, h8⟩
  have e : upd H (cBag t b l).a (.lst (.ref l :: is.map V.int)) = H := by
    funext a
    by_cases q : a = (cBag t b l).a
    · rw [q, upd_same, h2]
    · rw [upd_ne q]
  rw [e] at this
  exact k ns is h3 h4 σ F H this env
theorem rt_bag {t : Nat} {b l : Addr} {j : Nat} {ns is : List Int} {rt : VK} {p : Vp} (hj : Θ[j]? = some (cBg b l ns is)) (h1 : is.length = t) (h2 : ∀ i, is[0]? = some i → 0 ≤ i) (k : Rt fr (Θ.set j (cBag t b l)) rt p) : Rt fr Θ rt p := fun v F H ok hv => k v F H (ok.recell hj rfl rfl fun o ho => ⟨ns, is, h1, h2, ho⟩) hv
theorem ob_ix {Kf : PySem.W.Frag} {b l : Addr} {j m : Nat} {ns is : List Int} {n : Int} {x : Int} (hj : Θ[j]? = some (cBg b l ns is)) (hn : n = (m : Int) + 1) (e : is[m]? = some x) (k : K (iz zI x) Θ) : Ops fr Θ (rIxL Kf) (zAt b) (iz zI n) K := fun F H v w ok hv hw Q q => by
  obtain ⟨_, ⟨o, h2, h3, h4, h5⟩, _⟩ := ok.ce _ (List.mem_of_getElem? hj)
  subst h3
  have hv : v = .ref b := hv
  have hw : w = .int n := hw
  subst hv hw hn
  refine ⟨b, _, _, .int x, rfl, rfl, SqL.of h2, ?_, q.go k ok rfl⟩
  rw [show ((m : Int) + 1) = ((m + 1 : Nat) : Int) by omega]
  refine atI_nat ?_
  rw [List.getElem?_cons_succ, List.getElem?_map, e]
  rfl
theorem ob_ix0 {Kf : PySem.W.Frag} {b l : Addr} {j : Nat} {ns is : List Int} (hj : Θ[j]? = some (cBg b l ns is)) (k : K (iz (yL zI) ns) Θ) : Ops fr Θ (rIxL Kf) (zAt b) (iz zI 0) K := fun F H v w ok hv hw Q q => by
  obtain ⟨_, ⟨o, h2, h3, h4, h5⟩, _⟩ := ok.ce _ (List.mem_of_getElem? hj)
  subst h3
  have hv : v = .ref b := hv
  have hw : w = .int 0 := hw
  subst hv hw
  exact ⟨b, _, _, .ref l, rfl, rfl, SqL.of h2, atI_nat (j := 0) rfl, q.go k ok ⟨⟨l, _, rfl, h4, ints_pvs⟩, h5⟩⟩
theorem kb_set {b l : Addr} {i j m : Nat} {ns is : List Int} {te ti : TE} {D : Ends} (hi : Γ[i]? = some (some (zAt b)))
    (w : We fr Γ Θ te fun p Θ1 => We fr Γ Θ1 ti fun q Θ2 => ∃ x n, p = iz zI x ∧ q = iz zI n ∧ n = (m : Int) + 1 ∧ m < is.length ∧ Θ2[j]? = some (cBg b l ns is) ∧ Kn fr Γ (Θ2.set j (cBg b l ns (is.set m x))) D.nx) : Kn fr Γ Θ (tAsg te (gSub (tVar i) ti rSetL) D) := fun σ F H ok env =>
  w σ F H ok env _ fun p Θ1 k v F1 H1 s1 ok1 hp => by
    obtain ⟨v0, h1, h2⟩ := (env.mono s1).get hi
    have h2 : v0 = .ref b := h2
    subst h2
    refine ⟨_, h1, k σ F1 H1 ok1 (env.mono s1) _ fun q Θ2 ⟨x, n, e1, e2, hn, hm, hj, k2⟩ w2 F2 H2 s2 ok2 hp2 => ?_⟩
    subst e1 e2 hn
    obtain ⟨_, ⟨o, h3, h4, h5, h6⟩, _⟩ := ok2.ce _ (List.mem_of_getElem? hj)
    subst h4
    have hp : v = .int x := hp
    subst hp
    refine ⟨b, _, _, m + 1, rfl, hp2, h3, ?_, k2 σ F2 _ (ok2.mut hj rfl rfl ⟨?_, h5, h6⟩) ((env.mono s1).mono s2)⟩
    · unfold ixN
      simp only [List.length_cons, List.length_map]
      rw [if_pos (by omega), if_pos (by omega)]
      congr 1
    · show HO.lst _ = HO.lst _
      rw [List.set_cons_succ, List.map_set]
end
section
variable {mk : BKind} {P : Program} {w : World} {K : PySem.W.Frag} {mg : Str → Option Value} {base : Heap} {x m qual : Str} {C : Addr} {st : Stmt} {N ps : List Str} {k : Nat} {α β : Type} {ef : HE → Er} {args : α → List Vp} {r : Rep β} {md : α → DM β}
theorem Src.okKW (hmk : ∀ b l, (mk b l).own = true) (F : Src K mg x st ps) (S : FnScope N ps (defScope st)) (len : ∀ x, (args x).length + 1 = ps.length)
    (hbody : ∀ (f : Addr) (cdv : Value) (A : Around) (outer : List Env) (s : Shared) (H : Hp) (E : XK) (b l : Addr) (a : α) (Q : β → Prop), Room k (A.deeper (envOfC x (defScope st) s.heap.objs.size f cdv)) → md a Q noX →
      ∃ t, PSs (cxOf CX0 P w K mg base N x (defScope st) f cdv A outer s H E).nox (defBody st) t ∧ ∀ fr Qv, RetKW mk fr b l Qv r Q → Kn fr (envOf N (zAt b :: args a)) [mk b l] (t { nx := fun _ H' => Qv .non H', rt := Qv })) : Def P w K mg base CX0 (k + 1) x ps (spC (preK mk (preBW args r md))) :=
  F.okC S (fun qs Θ out err ⟨b, l, qs', o, h1, h2, ⟨a, Q, e, _⟩, _⟩ => ⟨by rw [h1, e]; exact len a, fun c hc => by rw [h2] at hc; rw [List.mem_singleton.mp hc]; exact hmk b l⟩) fun f cdv A outer s H E qs Θ out err hr ⟨b, l, qs', o, e1, e2, ⟨a, Q, e3, h, e4⟩, e5, e6⟩ => by
    subst e1 e2 e3 e4 e5 e6
    obtain ⟨t, ht, hk⟩ := hbody f cdv A outer s H E b l a Q hr h
    refine ⟨t, ht, fun fr Qv hret => hk fr Qv fun y hy Θ hc => ?_⟩
    obtain ⟨Θr, pm⟩ := perm_of_mem hc
    refine hret _ [mk b l] ⟨⟨y, hy, rfl⟩, rfl⟩ rfl Θ Θr pm
end
end L2
set_option Elab.async false
set_option linter.all false
set_option maxRecDepth 100000
set_option maxHeartbeats 4000000
namespace L2
open PySem PySem.Spec PyProof.Rows PySem.HErr
def zScr (Kf : PySem.W.Frag) : Rep (List Int) := ⟨fun F v ns => ∃ a, v = .ref a ∧ SqL Kf F a (ns.map V.int) ∧ ns.length ≤ 63, fun e ⟨a, h1, h2, h3⟩ => ⟨a, h1, e.seq h2, h3⟩⟩
def preBag (Kf : PySem.W.Frag) (t : Nat) : PreN := fun ps out err => ∃ ns, ps = [iz (zScr Kf) ns] ∧ out = (fun p Θn => ∃ b l, p = zAt b ∧ Θn = [cBag t b l]) ∧ err = noErr
section
variable {fr fr' : Fr} {Γ Γ' : Gam} {Θ Θ' : List Cel} {F F' H H' : Hp} {K : Vp → List Cel → Prop} {Qv : VK}
theorem wi_scr {Kf : PySem.W.Frag} {tl : TE} {K : List Vp → List Cel → Prop} (w : We fr Γ Θ tl fun p Θ1 => ∃ ns : List Int, p = iz (zScr Kf) ns ∧ (ns.length ≤ big → K (ns.map (iz zI)) Θ1)) : Wi fr Γ Θ (iList Kf tl) K := fun σ F H ok env R q =>
  w σ F H ok env _ fun p Θ1 ⟨ns, e, k⟩ v F1 H1 s1 ok1 hp => by
    subst e
    obtain ⟨a, rfl, h2, h3⟩ := hp
    have up : ∀ {F2 H2 : Hp}, Same F1 F2 → Same F2 H2 → SqL Kf H2 a (ns.map V.int) := fun s2 fh => (s2.trans fh).seq h2
    refine ⟨a, rfl, ⟨_, up (Same.refl _) ok1.fh⟩, q _ Θ1 (k (Nat.le_trans h3 (by decide))) _ F1 H1 s1 ok1 fun F2 H2 s2 fh => ⟨fun i p hi => ?_, ?_⟩⟩
    · obtain ⟨x, hx, rfl⟩ := get_izs hi
      have hu : (ns.map V.int)[i]? = some (.int x) := by rw [List.getElem?_map, hx]; rfl
      refine ⟨⟨_, _, up s2 fh, hu⟩, fun y H3 ⟨e, hy⟩ => ?_⟩
      subst e
      have hy := hy _ (up s2 fh)
      rw [hu] at hy
      cases hy
      exact ⟨F2, Same.refl _, Same.refl _, fh, Newer.refl _ _, rfl⟩
    · rw [List.length_map]
      refine ⟨_, up s2 fh, ?_⟩
      rw [List.length_map]
      exact Nat.le_refl _
/-- the box is made -/
theorem we_bag {t : TA} {m : Nat} (w : Wa fr Γ Θ t fun ps Θ1 => ∃ (ns is : List Int), ps = iz (yL zI) ns :: is.map (iz zI) ∧ is.length = m ∧ m ≤ 10 ∧ (∀ i, is[0]? = some i → 0 ≤ i) ∧ ∀ b l, K (zAt b) (cBag m b l :: Θ1)) : We fr Γ Θ (tLst t) K := fun σ F H ok env Q q =>
  w σ F H ok env _ fun ps Θ1 ⟨ns, is, e, h1, h0, h2, k⟩ vs F1 H1 s1 ok1 hps => by
    subst e
    cases hps with
    | cons hl hi =>
      obtain ⟨⟨l, us, rfl, g2, g3⟩, g4⟩ := hl
      have e1 := pvs_I g3
      subst e1
      have e2 := pvs_I (pvs_map hi)
      subst e2
      refine ⟨?_, fun p np => q _ _ (k p l) _ F1 _ s1 (ok1.mkOwn (c := cBag m p l) np rfl ⟨ns, is, h1, h2, rfl, g2, g4⟩) rfl⟩
      rw [List.length_cons, List.length_map]
      exact Nat.le_of_lt (small1000 (by omega))
end
end L2
set_option Elab.async false
set_option linter.all false
set_option maxRecDepth 100000
set_option maxHeartbeats 4000000
namespace L2
open PySem PySem.Spec PyProof.Rows PySem.HErr
section
variable {fr fr' : Fr} {Γ Γ' : Gam} {Θ Θ' : List Cel} {F F' H H' : Hp} {K : Vp → List Cel → Prop} {Qv : VK}
class QDat {α : Type} (r : Rep α) [DecidableEq α] where
  enc : α → PyData
  dep : Nat
  dp : ∀ {Kf : PySem.W.Frag} {F : Hp} {v : V} {x : α}, r.p F v x → Dp Kf F v (enc x)
  cl : ∀ {F : Hp} {v : V} {x : α}, r.p F v x → (enc x).canLay0 = true
  dl : ∀ x : α, (enc x).depth ≤ dep
  eq : ∀ x y : α, PyData.eqv (enc x) (enc y) = decide (x = y)
instance : QDat zI := ⟨PyData.int, 0, fun h => Dat.dp (r := zI) h, fun _ => by simp only [PyData.canLay0], fun x => Dat.dl (r := zI) x, fun x y => by simp only [PyData.eqv]; exact Bool.eq_iff_iff.mpr (by simp)⟩
instance : QDat zB := ⟨PyData.bool, 0, fun h => by cases (show _ = V.bl _ from h); exact .bl _, fun _ => by simp only [PyData.canLay0], fun x => by simp [PyData.depth], fun x y => by cases x <;> cases y <;> simp [PyData.eqv]⟩
instance : QDat yS := ⟨PyData.str, 0, fun h => Dat.dp (r := zS) h.1, fun h => by simp only [PyData.canLay0]; exact h.1.2.ok, fun x => Dat.dl (r := zS) x, fun x y => by simp only [PyData.eqv]; exact Bool.eq_iff_iff.mpr (by simp)⟩
theorem q_all {α : Type} [DecidableEq α] {r : Rep α} [d : QDat r] {Kf : PySem.W.Frag} {vs : List V} {xs : List α} (h : PVs r F vs xs) : DpAll Kf F vs (xs.map d.enc) ∧ PyData.canLayAll0 (xs.map d.enc) = true := by
  induction h with
  | nil => exact ⟨.nil, by simp only [List.map_nil, PyData.canLayAll0]⟩
  | cons a _ ih => exact ⟨.cons (d.dp a) ih.1, by simp only [List.map_cons, PyData.canLayAll0, d.cl a, ih.2, Bool.and_self]⟩
theorem q_dep {α : Type} [DecidableEq α] {r : Rep α} [d : QDat r] (xs : List α) : PyData.depthAll (xs.map d.enc) ≤ d.dep := depthAll_le fun y hy => by
  obtain ⟨x, _, rfl⟩ := List.mem_map.mp hy
  exact d.dl x
theorem q_eqs {α : Type} [DecidableEq α] {r : Rep α} [d : QDat r] : ∀ xs ys : List α, PyData.eqvAll (xs.map d.enc) (ys.map d.enc) = decide (xs = ys)
  | [], [] => by simp [PyData.eqvAll]
  | [], _ :: _ => by simp [PyData.eqvAll]
  | _ :: _, [] => by simp [PyData.eqvAll]
  | x :: xs, y :: ys => by simp [PyData.eqvAll, d.eq, q_eqs xs ys]
instance {α : Type} [DecidableEq α] {r : Rep α} [d : QDat r] : QDat (yL r) := ⟨fun xs => .list (xs.map d.enc), d.dep + 1, fun ⟨⟨a, vs, h1, h2, h3⟩, _⟩ => by subst h1; exact .lst (SqL.of h2) (q_all h3).1, fun ⟨⟨a, vs, h1, h2, h3⟩, _⟩ => by simp only [PyData.canLay0]; exact (q_all (Kf := []) h3).2, fun xs => by
  have := q_dep (r := r) xs
  simp only [PyData.depth]
  omega, fun x y => by simp only [PyData.eqv]; exact q_eqs x y⟩
instance {α : Type} [TNar α] [DecidableEq α] {r : Rep α} [d : QDat r] : QDat (yT r) := ⟨fun xs => .tuple (xs.map d.enc), d.dep + 1, fun ⟨⟨a, vs, h1, h2, h3⟩, _⟩ => by subst h1; exact .tup (h2.sq (Same.refl _)) (q_all h3).1, fun ⟨⟨a, vs, h1, h2, h3⟩, _⟩ => by simp only [PyData.canLay0]; exact (q_all (Kf := []) h3).2, fun xs => by
  have := q_dep (r := r) xs
  simp only [PyData.depth]
  omega, fun x y => by simp only [PyData.eqv]; exact q_eqs x y⟩
instance {α β : Type} [DecidableEq α] [DecidableEq β] {r : Rep α} {s : Rep β} [d : QDat r] [e : QDat s] : QDat (z2 r s) := ⟨fun x => .tuple [d.enc x.1, e.enc x.2], max d.dep e.dep + 1, fun ⟨a, u, w, h1, h2, h3, h4⟩ => by subst h1; exact .tup (SqT.of h2) (.cons (d.dp h3) (.cons (e.dp h4) .nil)),
  fun ⟨a, u, w, h1, h2, h3, h4⟩ => by simp only [PyData.canLay0, PyData.canLayAll0, d.cl h3, e.cl h4, Bool.and_self], fun x => by
    have h1 := d.dl x.1
    have h2 := e.dl x.2
    simp only [PyData.depth, PyData.depthAll]
    omega, fun x y => by
    simp only [PyData.eqv, PyData.eqvAll, d.eq, e.eq, Bool.and_true]
    exact Bool.eq_iff_iff.mpr (by simp [Prod.ext_iff])⟩
instance {α β γ : Type} [DecidableEq α] [DecidableEq β] [DecidableEq γ] {r : Rep α} {s : Rep β} {t : Rep γ} [d : QDat r] [e : QDat s] [f : QDat t] : QDat (z3 r s t) := ⟨fun x => .tuple [d.enc x.1, e.enc x.2.1, f.enc x.2.2], max d.dep (max e.dep f.dep) + 1, fun ⟨a, u, w, z, h1, h2, h3, h4, h5⟩ => by subst h1; exact .tup (SqT.of h2) (.cons (d.dp h3) (.cons (e.dp h4) (.cons (f.dp h5) .nil))),
  fun ⟨a, u, w, z, h1, h2, h3, h4, h5⟩ => by simp only [PyData.canLay0, PyData.canLayAll0, d.cl h3, e.cl h4, f.cl h5, Bool.and_self], fun x => by
    have h1 := d.dl x.1
    have h2 := e.dl x.2.1
    have h3 := f.dl x.2.2
    simp only [PyData.depth, PyData.depthAll]
    omega, fun x y => by
    simp only [PyData.eqv, PyData.eqvAll, d.eq, e.eq, f.eq, Bool.and_true]
    exact Bool.eq_iff_iff.mpr (by simp [Prod.ext_iff])⟩
instance {α β γ δ : Type} [DecidableEq α] [DecidableEq β] [DecidableEq γ] [DecidableEq δ] {r : Rep α} {s : Rep β} {t : Rep γ} {u : Rep δ} [d : QDat r] [e : QDat s] [f : QDat t] [g : QDat u] : QDat (z4 r s t u) := ⟨fun x => .tuple [d.enc x.1, e.enc x.2.1, f.enc x.2.2.1, g.enc x.2.2.2], max (max d.dep e.dep) (max f.dep g.dep) + 1, fun ⟨a, v1, v2, v3, v4, h1, h2, h3, h4, h5, h6⟩ => by subst h1; exact .tup (SqT.of h2) (.cons (d.dp h3) (.cons (e.dp h4) (.cons (f.dp h5) (.cons (g.dp h6) .nil)))),
  fun ⟨a, v1, v2, v3, v4, h1, h2, h3, h4, h5, h6⟩ => by simp only [PyData.canLay0, PyData.canLayAll0, d.cl h3, e.cl h4, f.cl h5, g.cl h6, Bool.and_self], fun x => by
    have h1 := d.dl x.1
    have h2 := e.dl x.2.1
    have h3 := f.dl x.2.2.1
    have h4 := g.dl x.2.2.2
    simp only [PyData.depth, PyData.depthAll]
    omega, fun x y => by
    simp only [PyData.eqv, PyData.eqvAll, d.eq, e.eq, f.eq, g.eq, Bool.and_true]
    exact Bool.eq_iff_iff.mpr (by simp [Prod.ext_iff])⟩
instance {α β γ δ ε : Type} [DecidableEq α] [DecidableEq β] [DecidableEq γ] [DecidableEq δ] [DecidableEq ε] {r : Rep α} {s : Rep β} {t : Rep γ} {u : Rep δ} {w : Rep ε} [d : QDat r] [e : QDat s] [f : QDat t] [g : QDat u] [i : QDat w] : QDat (z5 r s t u w) := ⟨fun x => .tuple [d.enc x.1, e.enc x.2.1, f.enc x.2.2.1, g.enc x.2.2.2.1, i.enc x.2.2.2.2], max (max d.dep e.dep) (max f.dep (max g.dep i.dep)) + 1, fun ⟨a, v1, v2, v3, v4, v5, h1, h2, h3, h4, h5, h6, h7⟩ => by subst h1; exact .tup (SqT.of h2) (.cons (d.dp h3) (.cons (e.dp h4) (.cons (f.dp h5) (.cons (g.dp h6) (.cons (i.dp h7) .nil))))),
  fun ⟨a, v1, v2, v3, v4, v5, h1, h2, h3, h4, h5, h6, h7⟩ => by simp only [PyData.canLay0, PyData.canLayAll0, d.cl h3, e.cl h4, f.cl h5, g.cl h6, i.cl h7, Bool.and_self], fun x => by
    have h1 := d.dl x.1
    have h2 := e.dl x.2.1
    have h3 := f.dl x.2.2.1
    have h4 := g.dl x.2.2.2.1
    have h5 := i.dl x.2.2.2.2
    simp only [PyData.depth, PyData.depthAll]
    omega, fun x y => by
    simp only [PyData.eqv, PyData.eqvAll, d.eq, e.eq, f.eq, g.eq, i.eq, Bool.and_true]
    exact Bool.eq_iff_iff.mpr (by simp [Prod.ext_iff])⟩
instance {α : Type} [DecidableEq α] {r : Rep α} [d : QDat r] : QDat (z1 r) := ⟨fun x => .tuple [d.enc x], d.dep + 1, fun ⟨a, v1, h1, h2, h3⟩ => by subst h1; exact .tup (SqT.of h2) (.cons (d.dp h3) .nil),
  fun ⟨a, v1, h1, h2, h3⟩ => by simp only [PyData.canLay0, PyData.canLayAll0, d.cl h3, Bool.and_self], fun x => by
    have h1 := d.dl x
    simp only [PyData.depth, PyData.depthAll]
    omega, fun x y => by simp only [PyData.eqv, PyData.eqvAll, d.eq, Bool.and_true]⟩
instance {α β : Type} [DecidableEq α] [DecidableEq β] {r : Rep α} {s : Rep β} [d : QDat r] [e : QDat s] : QDat (zLp r s) := ⟨fun x => .list [d.enc x.1, e.enc x.2], max d.dep e.dep + 1, fun ⟨a, u, w, h1, h2, h3, h4⟩ => by subst h1; exact .lst (SqL.of h2) (.cons (d.dp h3) (.cons (e.dp h4) .nil)),
  fun ⟨a, u, w, h1, h2, h3, h4⟩ => by simp only [PyData.canLay0, PyData.canLayAll0, d.cl h3, e.cl h4, Bool.and_self], fun x => by
    have h1 := d.dl x.1
    have h2 := e.dl x.2
    simp only [PyData.depth, PyData.depthAll]
    omega, fun x y => by
    simp only [PyData.eqv, PyData.eqvAll, d.eq, e.eq, Bool.and_true]
    exact Bool.eq_iff_iff.mpr (by simp [Prod.ext_iff])⟩
instance {α β γ : Type} [DecidableEq α] [DecidableEq β] [DecidableEq γ] {r : Rep α} {s : Rep β} {t : Rep γ} [d : QDat r] [e : QDat s] [f : QDat t] : QDat (zL3 r s t) := ⟨fun x => .list [d.enc x.1, e.enc x.2.1, f.enc x.2.2], max d.dep (max e.dep f.dep) + 1, fun ⟨a, u, w, z, h1, h2, h3, h4, h5⟩ => by subst h1; exact .lst (SqL.of h2) (.cons (d.dp h3) (.cons (e.dp h4) (.cons (f.dp h5) .nil))),
  fun ⟨a, u, w, z, h1, h2, h3, h4, h5⟩ => by simp only [PyData.canLay0, PyData.canLayAll0, d.cl h3, e.cl h4, f.cl h5, Bool.and_self], fun x => by
    have h1 := d.dl x.1
    have h2 := e.dl x.2.1
    have h3 := f.dl x.2.2
    simp only [PyData.depth, PyData.depthAll]
    omega, fun x y => by
    simp only [PyData.eqv, PyData.eqvAll, d.eq, e.eq, f.eq, Bool.and_true]
    exact Bool.eq_iff_iff.mpr (by simp [Prod.ext_iff])⟩
def yU {α β : Type} (r : Rep α) (s : Rep β) : Rep (α ⊕ β) := ⟨fun F v x => match x with | .inl a => r.p F v a | .inr b => s.p F v b, fun {F F' v x} e h => by
  cases x with
  | inl a => exact r.mono e h
  | inr b => exact s.mono e h⟩
/-- unlike kinds are never equal -/
class QApart {α β : Type} [DecidableEq α] [DecidableEq β] (r : Rep α) (s : Rep β) [d : QDat r] [e : QDat s] : Prop where
  ne : ∀ x y, PyData.eqv (d.enc x) (e.enc y) = false
  ne' : ∀ x y, PyData.eqv (e.enc y) (d.enc x) = false
instance {α β γ : Type} [DecidableEq α] [DecidableEq β] [DecidableEq γ] {r : Rep α} {s : Rep β} {t : Rep γ} [d : QDat r] [e : QDat s] [f : QDat t] : QApart yS (zL3 r s t) := ⟨fun x y => by simp [QDat.enc, PyData.eqv], fun x y => by simp [QDat.enc, PyData.eqv]⟩
instance {α β : Type} [DecidableEq α] [DecidableEq β] {r : Rep α} {s : Rep β} [d : QDat r] [e : QDat s] : QApart yS (zLp r s) := ⟨fun x y => by simp [QDat.enc, PyData.eqv], fun x y => by simp [QDat.enc, PyData.eqv]⟩
instance {α : Type} [DecidableEq α] {r : Rep α} [d : QDat r] : QApart yS (yL r) := ⟨fun x y => by simp [QDat.enc, PyData.eqv], fun x y => by simp [QDat.enc, PyData.eqv]⟩
instance {α : Type} [TNar α] [DecidableEq α] {r : Rep α} [d : QDat r] : QApart yS (yT r) := ⟨fun x y => by simp [QDat.enc, PyData.eqv], fun x y => by simp [QDat.enc, PyData.eqv]⟩
def numS (n : Int) : Str := Str.ofString (toString n)
theorem num_ascN (n : Nat) : Asc (numS (n : Int)) := fun c hc => by
  have e : (numS (n : Int)).cps.toList = TL.numL n := TL.tl_num n
  rw [e] at hc
  have := TL.numL_digits n c hc
  omega
theorem num_neg (n : Nat) : (numS (Int.negSucc n)).cps.toList = 45 :: TL.numL (n + 1) := by
  unfold numS
  rw [PyProof.Rows.signs_ofString]
  show ((("-" : String) ++ Nat.repr (n + 1)).toList).map Char.toNat = _
  rw [String.toList_append, List.map_append, Nat.toList_repr]
  rfl
theorem num_asc (n : Int) : Asc (numS n) := by
  cases n with
  | ofNat n => exact num_ascN n
  | negSucc n =>
    intro c hc
    rw [num_neg] at hc
    rcases List.mem_cons.mp hc with rfl | hc
    · decide
    · have := TL.numL_digits (n + 1) c hc
      omega
def CStr (n : Int) : Prop := n.natAbs < 10 ^ 200
theorem CStr.log {n : Int} (h : CStr n) : n.natAbs.log2 < 1920 := by
  unfold CStr at h
  by_cases e : n.natAbs = 0
  · rw [e]; decide
  · rw [Nat.log2_lt e]
    exact Nat.lt_trans h (by decide)
theorem num_len {n : Int} (h : CStr n) : (numS n).length ≤ 1921 := by
  have e := PySem.int_text_length_le (k := 1920) (by decide) h.log
  show (Str.ofString (toString n)).length ≤ _
  rw [PySem.ofString_length]
  exact e
theorem le_num {n : Int} (h : CStr n) : ∀ F, (iz yS (numS n)).p F (.str (Str.ofString (toString n))) := fun F => ⟨⟨rfl, num_asc n⟩, Nat.le_trans (num_len h) (by decide)⟩
theorem cy_str {n : Int} (h : CStr n) (k : K (iz yS (numS n)) Θ) : Cbs fr Θ (fun xs H Q => ∃ i : Int, xs = [.int i] ∧ i.natAbs.log2 < 1920 ∧ Q (.str (toString i)) H) [iz zI n] K := fun F H vs ok hps Q q => by
  cases hps with
  | cons h1 hp => cases hp with
    | nil =>
      have h1 : _ = V.int n := h1
      subst h1
      exact ⟨n, rfl, h.log, q.go k ok (le_num h F)⟩
def Wj (fr : Fr) (Γ : Gam) (Θ : List Cel) (ts : List TE) (acc : Str) (K : Str → List Cel → Prop) : Prop := Asc acc → ∀ σ F H, OkF fr Θ F H → EnvF Γ σ F → ∀ Q : Str → Hp → Prop, (∀ z Θ', K z Θ' → Asc z → ∀ F' H', Same F F' → OkF fr Θ' F' H' → Q z H') → tJs ts acc σ H Q
theorem we_fs {ts : List TE} (w : Wj fr Γ Θ ts Str.empty fun z Θ1 => z.length ≤ big ∧ K (iz yS z) Θ1) : We fr Γ Θ (fun σ H Q => tJs ts Str.empty σ H fun out H1 => Q (.str out) H1) K := fun σ F H ok env Q q =>
  w (fun c hc => by cases hc) σ F H ok env _ fun z Θ' ⟨hl, k⟩ ha F' H' s' ok' => q _ Θ' k _ F' H' s' ok' ⟨⟨rfl, ha⟩, hl⟩
theorem wj_nil {acc : Str} {K : Str → List Cel → Prop} (k : K acc Θ) : Wj fr Γ Θ [] acc K := fun ha σ F H ok env Q q => q acc Θ k ha F H (Same.refl F) ok
theorem wj_cons {t : TE} {ts : List TE} {acc : Str} {K : Str → List Cel → Prop} (w : We fr Γ Θ t fun p Θ1 => ∃ z, p = iz yS z ∧ acc.length + z.length ≤ big ∧ Wj fr Γ Θ1 ts (acc ++ z) K) : Wj fr Γ Θ (t :: ts) acc K := fun ha σ F H ok env Q q =>
  w σ F H ok env _ fun p Θ1 ⟨z, e, hl, k⟩ v F1 H1 s1 ok1 hp => by
    subst e
    obtain ⟨⟨e1, hz⟩, _⟩ := hp
    exact ⟨z, e1, by rw [show (acc ++ z).length = acc.length + z.length from by show (acc.cps ++ z.cps).size = _; rw [Array.size_append]; rfl]; exact big_line hl, k (ha.app hz) σ F1 H1 ok1 (env.mono s1) Q fun z' Θ' kk hz' F' H' s' ok' => q z' Θ' kk hz' F' H' (s1.trans s') ok'⟩
theorem we_fmtI {t : TE} (w : We fr Γ Θ t fun p Θ1 => ∃ n, p = iz zI n ∧ CStr n ∧ K (iz yS (numS n)) Θ1) : We fr Γ Θ (tFmt t) K := fun σ F H ok env Q q =>
  w σ F H ok env _ fun p Θ1 ⟨n, e, hn, k⟩ v F1 H1 s1 ok1 hp => by
    subst e
    exact .inr ⟨n, hp, hn.log, q _ Θ1 k _ F1 H1 s1 ok1 (le_num hn F1)⟩
end
end L2
set_option Elab.async false
set_option linter.all false
set_option maxRecDepth 100000
set_option maxHeartbeats 4000000
namespace L2
open PySem PySem.Spec PyProof.Rows PySem.HErr
section
variable {fr fr' : Fr} {Γ Γ' : Gam} {Θ Θ' : List Cel} {F F' H H' : Hp} {K : Vp → List Cel → Prop} {Qv : VK}
def tryD (hd : HE → Prop) (f : (HE → Prop) → Prop) : Prop := f hd
theorem tryD.go {hd : HE → Prop} {f : (HE → Prop) → Prop} (h : tryD hd f) : f hd := h
theorem joinD.go {S : Type} {f : (S → Prop) → Prop} {k : S → Prop} (h : joinD f k) : f k := h
theorem sps_WT {α β : Type} {ef : HE → Er} {args : α → List Vp} {r : Rep β} {m : α → DM β} {E : L2.St → XK} {ps : List Vp} {Q : β → Prop} {X : HE → Prop} (x : α) (h : m x Q X) (xx : ∀ z, X z → Kr fr Γ Θ (fun cls d σ H => E σ cls d H) (ef z)) (k : ∀ y, Q y → K (iz r y) Θ) (e : ps = args x := by rfl) : Sps fr Γ Θ (spA (preW ef args r m)) E ps K := sps_W x h k xx e
theorem we_cA {D : Addr} (k : K (zAt D) Θ) : We fr Γ Θ (tC (.ref D)) K := we_c (p := zAt D) (fun _ => rfl) k
/-- a if c else b, each of which needs more -/
theorem we_ifX {α : Type} {r : Rep α} {c : TT} {ta tb : TE} {f : (α → Prop) → Prop} {k : α → Prop} (h : joinD f k) (w : f k → Wt fr Γ Θ c fun b Θ1 => Θ1 = Θ ∧ (b = true → We fr Γ Θ ta fun p Θ2 => Θ2 = Θ ∧ ∃ x, p = iz r x ∧ k x) ∧ (b = false → We fr Γ Θ tb fun p Θ2 => Θ2 = Θ ∧ ∃ x, p = iz r x ∧ k x)) (kk : ∀ x, k x → K (iz r x) Θ) : We fr Γ Θ (tIf c ta tb) K := we_ifD (w h) kk
instance {α β : Type} [DecidableEq α] [DecidableEq β] {r : Rep α} {s : Rep β} [d : QDat r] [e : QDat s] [ap : QApart r s] : QDat (yU r s) := ⟨fun x => match x with | .inl a => d.enc a | .inr b => e.enc b, max d.dep e.dep, fun {Kf F v x} h => by
  cases x with
  | inl a => exact d.dp h
  | inr b => exact e.dp h, fun {F v x} h => by
  cases x with
  | inl a => exact d.cl h
  | inr b => exact e.cl h, fun x => by
  cases x with
  | inl a => exact Nat.le_trans (d.dl a) (Nat.le_max_left _ _)
  | inr b => exact Nat.le_trans (e.dl b) (Nat.le_max_right _ _), fun x y => by
  cases x with
  | inl a => cases y with
    | inl b => exact (d.eq a b).trans (by simp)
    | inr b => exact (ap.ne a b).trans (by simp)
  | inr a => cases y with
    | inl b => exact (ap.ne' b a).trans (by simp)
    | inr b => exact (e.eq a b).trans (by simp)⟩
instance {α β γ : Type} [DecidableEq α] [DecidableEq β] [DecidableEq γ] {r : Rep α} {s : Rep β} {t : Rep γ} [d : QDat r] [e : QDat s] [f : QDat t] [a1 : QApart s t] [a2 : QApart r s] [a3 : QApart r t] : QApart r (yU s t) := ⟨fun x y => by
  cases y with
  | inl a => exact a2.ne x a
  | inr a => exact a3.ne x a, fun x y => by
  cases y with
  | inl a => exact a2.ne' x a
  | inr a => exact a3.ne' x a⟩
theorem Kr.le {W : WX} {e : Er} (h : Kr fr Γ' Θ W e) (g : GLe Γ Γ') : Kr fr Γ Θ W e := fun σ F H ok env d us hd hf => h σ F H ok (env.le g) d us hd hf
end
end L2
set_option Elab.async false
set_option linter.all false
set_option maxRecDepth 100000
set_option maxHeartbeats 4000000
namespace L2
open PySem PySem.Spec PyProof.Rows PySem.HErr
section
variable {fr fr' : Fr} {Γ Γ' : Gam} {Θ Θ' : List Cel} {F F' H H' : Hp} {K : Vp → List Cel → Prop} {Qv : VK}
structure IsO (K : PySem.W.Frag) (C : Addr) : Prop where
  cl : Cls K C
  ha : PySem.W.findIn K (.ref C) "__class__" = some (some (.builtin "object.__class__"))
  hn : PySem.W.specialIn K (.builtin "object.__class__") "__get__" = some (some (.builtin "getset_descriptor.__get__"))
  htk : PySem.W.takesIn K (.builtin "object.__class__") = some true
  hm : PySem.W.mroIn K C (.type "object") = some true
theorem cb_isO {Kf : PySem.W.Frag} {C D : Addr} {p : Vp} {b : Bool} (T : IsO Kf C) (ic : InsC fr Θ p C) (hk : PySem.W.kitOne Kf (.ref C) (.ref D) = some b) (k : K (iz zB b) Θ) : Cbs fr Θ (rIsi Kf) [p, zAt D] K := fun F H vs ok hps Q q => by
  cases hps with
  | cons h1 hp => cases hp with
    | cons h2 hp => cases hp with
      | nil =>
        have h2 : _ = V.ref D := h2
        subst h2
        obtain ⟨a, dx, fs, rfl, h3⟩ := ic F H _ ok h1
        exact ⟨.ref a, .ref D, .ref C, .ref D, b, rfl, .own D, .base (.ins h3 T.cl T.ha T.hn T.htk T.hm), hk, q.go k ok rfl⟩
end
end L2
set_option Elab.async false
set_option linter.all false
set_option maxRecDepth 100000
set_option maxHeartbeats 4000000
namespace L2
open PySem PySem.Spec PyProof.Rows PySem.HErr
def cBagC (N : Nat) (b l : Addr) : Cel := ⟨b, true, fun F o => ∃ (ns : List Int) (i c r : Int), 0 ≤ i ∧ i ≤ (N : Int) ∧ (cBg b l ns [i, c, r]).φ F o, fun e ⟨ns, i, c, r, h1, h2, h3⟩ => ⟨ns, i, c, r, h1, h2, (cBg b l ns [i, c, r]).mono e h3⟩, fun ⟨ns, i, c, r, _, _, h⟩ e => (cBg b l ns [i, c, r]).nt h e⟩
def CelLe (c c' : Cel) : Prop := c'.a = c.a ∧ c'.own = c.own ∧ ∀ F o, c.φ F o → c'.φ F o
theorem CelLe.refl (c : Cel) : CelLe c c := ⟨rfl, rfl, fun _ _ h => h⟩
def CLe (Θ Θ' : List Cel) : Prop := Paired CelLe Θ Θ'
theorem CLe.refl : ∀ Θ : List Cel, CLe Θ Θ
  | [] => .nil
  | c :: Θ => .cons (.refl c) (CLe.refl Θ)
theorem CLe.map {Θ Θ' : List Cel} (h : CLe Θ Θ') : Θ'.map Cel.a = Θ.map Cel.a := by
  unfold CLe at h
  induction h with
  | nil => rfl
  | cons a _ ih => rw [List.map_cons, List.map_cons, ih, a.1]
section
variable {fr fr' : Fr} {Γ Γ' : Gam} {Θ Θ' : List Cel} {F F' H H' : Hp} {K : Vp → List Cel → Prop} {Qv : VK}
def RetKN {β : Type} (fr : Fr) (N : Nat) (b l : Addr) (Qv : VK) (r : Rep β) (Q : β → Prop) : Prop := ∀ y, Q y → ∀ Θ M, M ≤ N → cBagC M b l ∈ Θ → Rt fr Θ Qv (iz r y)
theorem RetKN.fine {β : Type} {N : Nat} {b l : Addr} {r : Rep β} {Q : β → Prop} (h : RetKN fr N b l Qv r Q) (le : FrLe fr fr') : RetKN fr' N b l Qv r Q := fun y hy Θ M hM hc => (h y hy Θ M hM hc).fine le
end
end L2
set_option Elab.async false
set_option linter.all false
set_option maxRecDepth 100000
set_option maxHeartbeats 4000000
namespace L2
open PySem PySem.Spec PyProof.Rows PySem.HErr
def keyT (k : List Int) : List Key := k.map Sum.inl
theorem keyT_inj {k l : List Int} (h : keyT k = keyT l) : k = l := by
  unfold keyT at h
  exact (List.map_inj_right (fun a b e => Sum.inl.inj e)).mp h
def KVT {α : Type} (r : Rep α) (F : Hp) (kvs : List (List Key × V)) (rows : List (List Int × α)) : Prop := Paired (fun (kv : List Key × V) (x : List Int × α) => kv.1 = keyT x.1 ∧ r.p F kv.2 x.2 ∧ x.1.length ≤ big) kvs rows
theorem KVT.mono {α : Type} {r : Rep α} {F F' : Hp} {kvs : List (List Key × V)} {rows : List (List Int × α)} (h : KVT r F kvs rows) (e : Same F F') : KVT r F' kvs rows := Paired.imp2 (fun _ _ ⟨h1, h2, h3⟩ => ⟨h1, r.mono e h2, h3⟩) h
def yDT {α : Type} (r : Rep α) : Rep (List (List Int × α)) := ⟨fun F v rows => (∃ a o kvs, v = .ref a ∧ F a = some (.frz o (.dT kvs)) ∧ KVT r F kvs rows) ∧ rows.length ≤ big, fun e ⟨⟨a, o, kvs, h1, h2, h3⟩, h4⟩ => ⟨⟨a, o, kvs, h1, e _ _ h2, h3.mono e⟩, h4⟩⟩
def getT {α : Type} (rows : List (List Int × α)) (n : List Int) : Option α := (rows.find? fun x => decide (x.1 = n)).map (·.2)
def putT {α : Type} (rows : List (List Int × α)) (n : List Int) (x : α) : List (List Int × α) := if n ∈ rows.map (·.1) then rows.map fun y => if y.1 = n then (y.1, x) else y else rows ++ [(n, x)]
section
variable {fr fr' : Fr} {Γ Γ' : Gam} {Θ Θ' : List Cel} {F F' H H' : Hp} {K : Vp → List Cel → Prop} {Qv : VK}
theorem KVT.val {α : Type} {r : Rep α} {kvs : List (List Key × V)} {rows : List (List Int × α)} (h : KVT r F kvs rows) (n : List Int) : (getT rows n = none → valV kvs (keyT n) = none) ∧ ∀ x, getT rows n = some x → ∃ v, valV kvs (keyT n) = some v ∧ r.p F v x := by
  unfold KVT at h
  induction h with
  | nil => exact ⟨fun _ => rfl, (fun x e => nomatch e)⟩
  | @cons kv x ks xs h t ih =>
    obtain ⟨h1, h2, _⟩ := h
    by_cases e : x.1 = n
    · have e1 : kv.1 = keyT n := by rw [h1, e]
      have e2 : getT (x :: xs) n = some x.2 := by unfold getT; rw [List.find?_cons, decide_eq_true e]; rfl
      rw [e2, valV_pos e1]
      exact ⟨(fun q => nomatch q), fun y hy => ⟨_, rfl, by cases hy; exact h2⟩⟩
    · have e1 : ¬ kv.1 = keyT n := fun q => by rw [h1] at q; exact e (keyT_inj q)
      have e2 : getT (x :: xs) n = getT xs n := by unfold getT; rw [List.find?_cons, decide_eq_false e]
      rw [e2, valV_neg e1]
      exact ih
theorem KVT.some {α : Type} {r : Rep α} {kvs : List (List Key × V)} {rows : List (List Int × α)} (h : KVT r F kvs rows) (n : List Int) : (valV kvs (keyT n)).isSome = (getT rows n).isSome := by
  obtain ⟨h1, h2⟩ := h.val n
  cases e : getT rows n with
  | none => rw [h1 e]; rfl
  | some x =>
    obtain ⟨v, h3, _⟩ := h2 x e
    rw [h3]; rfl
theorem KVT.put {α : Type} {r : Rep α} {kvs : List (List Key × V)} {rows : List (List Int × α)} {n : List Int} {x : α} {u : V} (h : KVT r F kvs rows) (hu : r.p F u x) (hl : n.length ≤ big) : KVT r F (putK kvs (keyT n) u) (putT rows n x) := by
  have hk : (kvs.any fun kv => decide (kv.1 = keyT n)) = decide (n ∈ rows.map (·.1)) := by
    unfold KVT at h
    induction h with
    | nil => rfl
    | cons a b ih =>
      rename_i kv y kvs rows
      rw [List.any_cons, ih, a.1, List.map_cons]
      by_cases e : y.1 = n
      · rw [decide_eq_true (by rw [e]), Bool.true_or, decide_eq_true (by rw [e]; exact List.mem_cons_self ..)]
      · rw [decide_eq_false (fun q => e (keyT_inj q)), Bool.false_or]
        by_cases e2 : n ∈ rows.map (·.1)
        · rw [decide_eq_true e2, decide_eq_true (List.mem_cons_of_mem _ e2)]
        · rw [decide_eq_false e2, decide_eq_false fun q => (List.mem_cons.mp q).elim (fun q => e q.symm) e2]
  unfold putK putT
  by_cases e : n ∈ rows.map (·.1)
  · rw [if_pos e, if_pos (by rw [hk]; exact decide_eq_true e)]
    clear hk e
    unfold KVT at h ⊢
    induction h with
    | nil => exact .nil
    | cons a b ih =>
      refine .cons ?_ ih
      rename_i kv y kvs rows
      dsimp only
      by_cases e : y.1 = n
      · rw [if_pos e, if_pos (by rw [a.1, e])]
        exact ⟨a.1, hu, a.2.2⟩
      · rw [if_neg e, if_neg (fun q => e (keyT_inj (a.1.symm.trans q)))]
        exact a
  · rw [if_neg e, if_neg (by rw [hk]; simpa using e)]
    exact PySem.Paired.snoc h ⟨rfl, hu, hl⟩
end
end L2
set_option Elab.async false
set_option linter.all false
set_option maxRecDepth 100000
set_option maxHeartbeats 4000000
namespace L2
open PySem PySem.Spec PyProof.Rows PySem.HErr
end L2
set_option Elab.async false
set_option linter.all false
set_option maxRecDepth 100000
set_option maxHeartbeats 4000000
namespace L2
open PySem PySem.Spec PyProof.Rows PySem.HErr
section
variable {X : Cx} {K : PySem.W.Frag}
/-- text * int -/
def rMulS : R2 := fun x y H Q => ∃ (z : Str) (n : Int), x = .str z ∧ y = .int n ∧ -1000 ≤ n ∧ n ≤ 1000 ∧ z.length ≤ 100 ∧ Q (.str (Txt.mul z n)) H
theorem op_mulS : OpR X (binaryOp .Mult) rMulS := by
  intro pins s σ H x y v u Q I rx ry h
  obtain ⟨z, n, rfl, rfl, h1, h2, h3, q⟩ := h
  obtain ⟨t, rfl⟩ := rx
  obtain ⟨t', rfl⟩ := ry
  exact SB.mul (mulOk_of 100 1000 h3 h2 (by omega) (by decide) (by decide)) fun t' k => ⟨.str (Txt.mul z n), H, I.tok _, ⟨_, rfl⟩, q⟩
end
section
variable {fr fr' : Fr} {Γ Γ' : Gam} {Θ Θ' : List Cel} {F F' H H' : Hp} {K : Vp → List Cel → Prop} {Qv : VK}
theorem Mts.le {r : V → List V → Hp → VK → Prop} {p p' : Vp} {ps : List Vp} (w : Mts fr Θ r p' ps K) (h : p.Le p') : Mts fr Θ r p ps K := fun F H v vs ok a b Q k => w F H v vs ok (h _ _ a) b Q k
theorem asc_mul {z : Str} {n : Int} (h : Asc z) : Asc (Txt.mul z n) := by
  have key : ∀ (m : Nat) (acc : Array Nat), (∀ c ∈ acc.toList, c < 128) → ∀ c ∈ ((List.replicate m z.cps).foldl (· ++ ·) acc).toList, c < 128 := by
    intro m
    induction m with
    | zero => intro acc ha; exact ha
    | succ m ih =>
      intro acc ha
      rw [List.replicate_succ, List.foldl_cons]
      refine ih _ fun c hc => ?_
      rw [Array.toList_append, List.mem_append] at hc
      exact hc.elim (ha c) (h c)
  unfold Txt.mul
  split
  · exact fun c hc => (by simpa [Str.empty] using hc : False).elim
  · split
    · exact h
    · exact key _ #[] (fun c hc => nomatch hc)
theorem oy_mulS {z : Str} {n : Int} (h1 : -1000 ≤ n) (h2 : n ≤ 1000) (h3 : z.length ≤ 100) (k : K (iz yS (Txt.mul z n)) Θ) : Ops fr Θ rMulS (iz yS z) (iz zI n) K := fun F H v w ok hv hw Q q => by
  obtain ⟨⟨rfl, ha⟩, _⟩ := hv
  have hw : w = .int n := hw
  subst hw
  have hl : (Txt.mul z n).length ≤ big := by
    have e := len_mul z n
    have : (z.length : Int) * (if decide (n < 0) = true then 0 else n) ≤ 100 * 1000 := by
      refine Int.mul_le_mul (by omega) ?_ ?_ (by decide)
      · split <;> omega
      · split
        · exact Int.le_refl _
        · rename_i h; simp at h; omega
    have hb : big = 100000 := rfl
    omega
  exact ⟨z, n, rfl, rfl, h1, h2, h3, q.go k ok ⟨⟨rfl, asc_mul ha⟩, hl⟩⟩
end
end L2
set_option Elab.async false
set_option linter.all false
set_option maxRecDepth 100000
set_option maxHeartbeats 4000000
namespace L2
open PySem PySem.Spec PyProof.Rows PySem.HErr
class XBack {α : Type} (r : Rep α) [d : XDat r] : Prop where
  bk : ∀ {F : Hp} {v : V} {x : α}, xp F (d.enc x) v → (d.enc x).depth ≤ 60 → r.p F v x
instance : XBack yX := ⟨fun h hd => ⟨h, hd⟩⟩
instance : XBack zI := ⟨fun h _ => by simp only [XDat.enc, xp] at h; exact h⟩
instance : XBack yS := ⟨fun h _ => by simp only [XDat.enc, xp] at h; exact ⟨⟨h.1, h.2.1⟩, h.2.2⟩⟩
theorem xpAll_back {α : Type} {r : Rep α} [d : XDat r] [b : XBack r] {F : Hp} : ∀ {xs : List α} {vs : List V}, xpAll F (xs.map d.enc) vs → (∀ x ∈ xs, (d.enc x).depth ≤ 60) → PVs r F vs xs
  | [], vs, h, _ => by
    simp only [List.map_nil, xpAll] at h
    subst h
    exact .nil
  | x :: xs, vs, h, hd => by
    simp only [List.map_cons, xpAll] at h
    obtain ⟨v, r', rfl, h1, h2⟩ := h
    exact .cons (b.bk h1 (hd x (List.mem_cons_self ..))) (xpAll_back h2 fun y hy => hd y (List.mem_cons_of_mem _ hy))
instance {α : Type} {r : Rep α} [d : XDat r] [b : XBack r] : XBack (yL r) := ⟨fun {F v xs} h hd => by
  have hx : (iz yX (.list (xs.map d.enc))).p F v := ⟨h, hd⟩
  simp only [XDat.enc, xp] at h
  obtain ⟨a, vs, h1, h2, h3, h4⟩ := h
  refine ⟨⟨a, vs, h1, h2, xpAll_back h4 fun x hx => ?_⟩, by rw [List.length_map] at h3; exact h3⟩
  simp only [XDat.enc, PyData.depth] at hd
  exact depth_mem (n := 60) (by omega) (List.mem_map.mpr ⟨x, hx, rfl⟩)⟩
class XNar2 {α : Type} [TNar α] (r : Rep α) [XDat r] : Prop where
  nx : ∀ xs : List α, TNar.nar (xs.map (XDat.enc (r := r))) = true ∨ TNar.nar (xs.map (XDat.enc (r := r))) = TNar.nar xs
instance : XNar2 yS := ⟨fun xs => .inr (by show (!isSDs (xs.map PyData.str)) = xs.isEmpty; rw [isSDs_strs, Bool.not_not])⟩
instance : XNar2 yX := ⟨fun xs => .inr (by rw [show (XDat.enc (r := yX)) = id from rfl, List.map_id])⟩
/-- data that is no word -/
class XNoS {α : Type} (r : Rep α) [XDat r] : Prop where
  ns : ∀ x, isSD (XDat.enc (r := r) x) = false
instance : XNoS zI := ⟨fun _ => rfl⟩
instance {α : Type} {r : Rep α} [XDat r] : XNoS (yL r) := ⟨fun _ => rfl⟩
instance {α : Type} [TNar α] {r : Rep α} [XDat r] [XNar r] : XNoS (yT r) := ⟨fun _ => rfl⟩
instance {α : Type} {r : Rep α} [XDat r] : XNoS (z1 r) := ⟨fun _ => rfl⟩
instance {α β : Type} {r : Rep α} {s : Rep β} [XDat r] [XDat s] : XNoS (z2 r s) := ⟨fun _ => rfl⟩
instance {α β γ : Type} {r : Rep α} {s : Rep β} {t : Rep γ} [XDat r] [XDat s] [XDat t] : XNoS (z3 r s t) := ⟨fun _ => rfl⟩
instance {α : Type} [TNar α] {r : Rep α} [d : XDat r] [k : XNoS r] : XNar2 r := ⟨fun xs => .inl (by
  show (!isSDs (xs.map d.enc)) = true
  cases xs with
  | nil => rfl
  | cons y ys => exact congrArg (fun b => !b) (isSDs_no (ds := (y :: ys).map d.enc) (List.mem_map.mpr ⟨y, List.mem_cons_self .., rfl⟩) (k.ns y)))⟩
theorem XNar2.tup {α : Type} [TNar α] {r : Rep α} [XDat r] [k : XNar2 r] {F : Hp} {a : Addr} {vs : List V} {xs : List α} (h : TupB (TNar.nar (xs.map (XDat.enc (r := r)))) F a vs) : TupB (TNar.nar xs) F a vs := (k.nx xs).elim (fun e => .inl (h.nar e)) fun e => by rw [← e]; exact h
instance {α : Type} [TNar α] {r : Rep α} [d : XDat r] [XNar r] [XNar2 r] [b : XBack r] : XBack (yT r) := ⟨fun {F v xs} h hd => by
  simp only [XDat.enc, xp] at h
  obtain ⟨a, vs, h1, h2, h3, h4⟩ := h
  refine ⟨⟨a, vs, h1, XNar2.tup h2, xpAll_back h4 fun x hx => ?_⟩, by rw [List.length_map] at h3; exact h3⟩
  simp only [XDat.enc, PyData.depth] at hd
  exact depth_mem (n := 60) (by omega) (List.mem_map.mpr ⟨x, hx, rfl⟩)⟩
def SqF (F : Hp) (a : Addr) (vs : List V) : Prop := F a = some (.lst vs) ∨ F a = some (.tup vs) ∨ ∃ o, F a = some (.frz o (.tup vs))
theorem SqF.mono {F F' : Hp} {a : Addr} {vs : List V} (e : Same F F') (h : SqF F a vs) : SqF F' a vs := h.elim (fun h => .inl (e _ _ h)) fun h => .inr (h.elim (fun h => .inl (e _ _ h)) fun ⟨o, h⟩ => .inr ⟨o, e _ _ h⟩)
theorem SqF.rd {F : Hp} {a : Addr} {vs : List V} (h : SqF F a vs) : Rd F a (.lst vs) ∨ Rd F a (.tup vs) := h.elim (fun h => .inl (.inl h)) fun h => .inr (h.elim .inl .inr)
def ySq {α : Type} (r : Rep α) : Rep (List α) := ⟨fun F v xs => (∃ a vs, v = .ref a ∧ SqF F a vs ∧ PVs r F vs xs) ∧ xs.length ≤ big, fun e ⟨⟨a, vs, h1, h2, h3⟩, h4⟩ => ⟨⟨a, vs, h1, h2.mono e, Paired.imp2 (fun _ _ h => r.mono e h) h3⟩, h4⟩⟩
section
variable {fr fr' : Fr} {Γ Γ' : Gam} {Θ Θ' : List Cel} {F F' H H' : Hp} {K : Vp → List Cel → Prop} {Qv : VK}
theorem SqF.up {a : Addr} {vs : List V} (fh : Same F H) (h : SqF F a vs) : Rd H a (.lst vs) ∨ Rd H a (.tup vs) := (h.mono fh).rd
end
instance {α : Type} {r : Rep α} : NotNon (yDT r) := ⟨fun F v x ⟨⟨a, o, kvs, h, _⟩, _⟩ => by rw [h]; exact fun q => by cases q⟩
instance {α : Type} {r : Rep α} : NotNon (ySq r) := ⟨fun F v x ⟨⟨a, vs, h, _⟩, _⟩ => by rw [h]; exact fun q => by cases q⟩
instance {α β γ δ ε : Type} {r : Rep α} {s : Rep β} {t : Rep γ} {u : Rep δ} {o : Rep ε} [d : XDat r] [e : XDat s] [f : XDat t] [g : XDat u] [l : XDat o] : XDat (z5 r s t u o) := ⟨fun x => .tuple [d.enc x.1, e.enc x.2.1, f.enc x.2.2.1, g.enc x.2.2.2.1, l.enc x.2.2.2.2], max d.dep (max e.dep (max f.dep (max g.dep l.dep))) + 1, fun ⟨a, v1, v2, v3, v4, v5, h1, h2, h3, h4, h5, h6, h7⟩ => by
  refine ⟨?_, ?_⟩
  · simp only [xp]
    exact ⟨a, _, h1, .inl h2, by show 5 ≤ 100000; decide, by simp only [xpAll]; exact ⟨_, _, rfl, (d.xd h3).1, _, _, rfl, (e.xd h4).1, _, _, rfl, (f.xd h5).1, _, _, rfl, (g.xd h6).1, _, _, rfl, (l.xd h7).1, rfl⟩⟩
  · have := (d.xd h3).2
    have := (e.xd h4).2
    have := (f.xd h5).2
    have := (g.xd h6).2
    have := (l.xd h7).2
    simp only [PyData.depth, PyData.depthAll]
    omega⟩
instance {α β γ δ ε : Type} {r : Rep α} {s : Rep β} {t : Rep γ} {u : Rep δ} {o : Rep ε} [XDat r] [XDat s] [XDat t] [XDat u] [XDat o] : PDat (z5 r s t u o) := ⟨fun _ => rfl⟩
instance {α β γ δ : Type} {r : Rep α} {s : Rep β} {t : Rep γ} {u : Rep δ} [d : Dat r] [e : Dat s] [f : Dat t] [g : Dat u] : Dat (z4 r s t u) := ⟨fun x => .tuple [d.enc x.1, e.enc x.2.1, f.enc x.2.2.1, g.enc x.2.2.2], d.dep + e.dep + f.dep + g.dep + 1, fun ⟨a, v1, v2, v3, v4, h1, h2, h3, h4, h5, h6⟩ => by subst h1; exact .tup (SqT.of h2) (.cons (d.dp h3) (.cons (e.dp h4) (.cons (f.dp h5) (.cons (g.dp h6) .nil)))),
  fun ⟨a, v1, v2, v3, v4, h1, h2, h3, h4, h5, h6⟩ => by show (nb _ && (nb _ && (nb _ && (nb _ && true)))) = true; rw [d.ok h3, e.ok h4, f.ok h5, g.ok h6]; rfl, fun x => by
    have h1 := d.dl x.1
    have h2 := e.dl x.2.1
    have h3 := f.dl x.2.2.1
    have h4 := g.dl x.2.2.2
    simp only [PyData.depth, PyData.depthAll]
    omega, fun {x y} h => by
    have h := PyData.tuple.inj h
    rw [List.cons.injEq, List.cons.injEq, List.cons.injEq, List.cons.injEq] at h
    exact Prod.ext (d.inj h.1) (Prod.ext (e.inj h.2.1) (Prod.ext (f.inj h.2.2.1) (g.inj h.2.2.2.1)))⟩
end L2
set_option Elab.async false
set_option linter.all false
set_option maxRecDepth 100000
set_option maxHeartbeats 4000000
namespace L2
open PySem PySem.Spec PyProof.Rows PySem.HErr
section
variable {fr fr' : Fr} {Γ Γ' : Gam} {Θ Θ' Θr : List Cel} {F F' H H' : Hp} {K : Vp → List Cel → Prop} {Qv : VK}
/-- what a def with lent cells returns -/
def RetL {β γ : Type} (fr : Fr) (Qv : VK) (r : Rep β) (cout : γ → List Cel) (Q : β × γ → Prop) : Prop := ∀ y g, Q (y, g) → ∀ Θ'' Θx, Θ''.Perm (cout g ++ Θx) → Rt fr Θ'' Qv (iz r y)
theorem RetL.fine {β γ : Type} {r : Rep β} {cout : γ → List Cel} {Q : β × γ → Prop} (h : RetL fr Qv r cout Q) (l : FrLe fr fr') : RetL fr' Qv r cout Q := fun y g hq Θ'' Θx pm => (h y g hq Θ'' Θx pm).fine l
/-- an error may leave: the cells hold something -/
def RseL {γ : Type} (fr : Fr) (E : XK) (ef : HE → Er) (cout : γ → List Cel) (X : HE → Prop) : Prop := ∀ z, X z → ∀ g Θ'' Θx, Θ''.Perm (cout g ++ Θx) → ∀ Γ, Kr fr Γ Θ'' (fun cls d _ H => E cls d H) (ef z)
theorem RseL.fine {γ : Type} {E : XK} {ef : HE → Er} {cout : γ → List Cel} {X : HE → Prop} (h : RseL fr E ef cout X) (l : FrLe fr fr') : RseL fr' E ef cout X := fun z hz g Θ'' Θx pm Γ σ F H ok env d us hd hf => h z hz g Θ'' Θx pm Γ σ F H (ok.le l) env d us hd hf
/-- a frozen instance of the class at C, its fields as g tells -/
def zIn {α : Type} (C : Addr) (g : α → List (Str × Vp)) : Rep α := ⟨fun F v x => ∃ a dx us, v = .ref a ∧ F a = some (.ins C dx us) ∧ FsOk F (g x) us, fun e ⟨a, dx, us, h1, h2, h3⟩ => ⟨a, dx, us, h1, e _ _ h2, h3.mono e⟩⟩
instance {α : Type} {C : Addr} {g : α → List (Str × Vp)} : NotNon (zIn C g) := ⟨fun F v x ⟨a, dx, us, h, _⟩ => by rw [h]; exact fun q => by cases q⟩
/-- the class at C stands, and has none of the fields' names -/
structure ClsF (K : PySem.W.Frag) (C : Addr) (fs : List Str) : Prop where
  cl : Cls K C
  no : ∀ f ∈ fs, NoAttr K C f
theorem fld_in {Kf : PySem.W.Frag} {α : Type} {C : Addr} {g : α → List (Str × Vp)} {x : α} {f : Str} {fs : List Str} {q : Vp} (T : ClsF Kf C fs) (hf : f ∈ fs) (h : (g x).lookup f = some q) : FldP fr Θ Kf f (iz (zIn C g) x) q := fun F H v ok ⟨a, dx, us, h1, h2, h3⟩ => by
  obtain ⟨u, h4, h5⟩ := h3.look h
  exact ⟨a, C, dx, us, u, h1, ok.fh _ _ h2, T.cl, T.no f hf, h4, h5⟩
/-- self.f = e, of one's own instance -/
theorem kn_putF {Kf : PySem.W.Frag} {f : Str} {fs : List Str} {ta tv : TE} {D : Ends} {C : Addr} (T : ClsF Kf C fs) (hf : f ∈ fs) (w : We fr Γ Θ tv fun p Θ1 => We fr Γ Θ1 ta fun q Θ2 => ∃ a dx fl j, q = zAt a ∧ Θ2[j]? = some (cI a C dx fl) ∧ fl.length < 1000 ∧ Kn fr Γ (Θ2.set j (cI a C dx (putP f p fl))) D.nx) : Kn fr Γ Θ (sFld Kf ta tv f D) :=
  kn_fldPut (w.imp fun p Θ1 h => h.imp fun q Θ2 ⟨a, dx, fl, j, e, hj, hl, k⟩ => ⟨a, C, dx, fl, j, e, hj, T.cl, T.no f hf, hl, k⟩)
/-- one's own list in a field is frozen -/
theorem FsOk.at {F : Hp} {fl : List (Str × Vp)} {us : List (Str × V)} (h : FsOk F fl us) {k : Nat} {f : Str} {p q : Vp} (hk : fl[k]? = some (f, p)) (hq : ∀ v, p.p F v → q.p F v) : FsOk F (fl.set k (f, q)) us := by
  induction h generalizing k with
  | nil => cases hk
  | cons a b ih =>
    cases k with
    | zero =>
      cases hk
      exact .cons ⟨a.1, hq _ a.2⟩ b
    | succ k => exact .cons a (ih hk)
/-- what __init__ is to end with -/
def InitW {α : Type} (fr : Fr) (x C : Addr) (g : α → List (Str × Vp)) (Qn : L2.St → Hp → Prop) (Q : α → Prop) : Prop := ∀ y, Q y → ∀ (Γ : Gam) (Θ : List Cel) (i : Nat) (dx : Addr), Θ[i]? = some (cI x C dx (g y)) → Kn fr Γ Θ Qn
end
section
variable {P : Program} {w : World} {K : PySem.W.Frag} {mg : Str → Option Value} {base : Heap} {x m qual : Str} {C : Addr} {st : Stmt} {N ps : List Str} {k : Nat} {α β γ : Type} {ef : HE → Er} {args : List Addr → α → List Vp} {cin : List Addr → α → List Cel} {cout : List Addr → α → γ → List Cel} {r : Rep β} {md : α → DM (β × γ)}
theorem SrcI.okW {α β : Type} {args : α → List Vp} {md : α → DM β} {g : β → List (Str × Vp)} (F : SrcI K C qual st ps) (S : FnScope N ps (defScope st)) (len : ∀ x, (args x).length + 1 = ps.length)
    (hbody : ∀ (f : Addr) (cdv : Value) (A : Around) (outer : List Env) (s : Shared) (H : Hp) (E : XK) (a : α) (Q : β → Prop) (X : HE → Prop), Room k (A.deeper (envOfC qual (defScope st) s.heap.objs.size f cdv)) → md a Q X →
      ∃ t, PSs (cxOf (L2.CX P w) P w K mg base N qual (defScope st) f cdv A outer s H E) (defBody st) t ∧ ∀ fr x dx (Qn : L2.St → Hp → Prop) (rt : VK), InitW fr x C g Qn Q → RseW fr E ef X → Kn fr (envOf N (zAt x :: args a)) [cI x C dx []] (t { nx := Qn, rt := rt })) : DefI P w K mg base (L2.CX P w) (k + 1) C ps (spI C (preW ef args (zIn C g) md)) :=
  F.okAX S (fun qs out err ⟨a, Q, X, e, _⟩ => by rw [e]; exact len a) fun f cdv A outer s H E qs out err hr ⟨a, Q, X, e1, h, e2, e3⟩ => by
    subst e1 e2 e3
    obtain ⟨t, ht, hk⟩ := hbody f cdv A outer s H E a Q X hr h
    refine ⟨t, ht, fun fr x dx Qn rt hq hrt hrse => hk fr x dx Qn rt (fun y hy Γ Θ i dx' hi σ F' H' ok env => ?_) fun z hz Γ Θ => kr_E hrse ⟨z, hz, rfl⟩⟩
    obtain ⟨h1, ⟨o, h2, us, rfl, h4⟩, h5⟩ := ok.ce _ (List.mem_of_getElem? hi)
    have ok2 := ok.frz hi rfl h2
    have sF : Same F' (upd F' x (.ins C dx' us)) := same_upd h1
    exact hq _ ⟨y, hy, rfl⟩ σ _ H' ⟨_, ok2⟩ ⟨x, dx', us, rfl, upd_same, h4.mono sF⟩
end
end L2
set_option Elab.async false
set_option linter.all false
set_option maxRecDepth 100000
set_option maxHeartbeats 4000000
namespace L2
open PySem PySem.Spec PyProof.Rows PySem.HErr
open PySem.W (findIn isFn selfFirst subIn)
/-- what a comparison of the class at C asks -/
structure CmpC (K : PySem.W.Frag) (C : Addr) : Prop where
  si : subIn K (.type "int") (.ref C) = some false
  is : subIn K (.ref C) (.type "int") = some false
/-- what such a call is of: an instance of the class at C -/
def rSp1 (C : Addr) (sp : Sp) (E : XK) (R : V → Prop) : List V → Hp → VK → Prop := fun xs H Q => ∃ a dx fs, xs = [.ref a] ∧ H a = some (.ins C dx fs) ∧ sp [.ref a] H (fun v H2 => R v ∧ Q v H2) E
section
variable {X : Cx} {CX : CXT} {k : Nat} {C : Addr} {ps : List Str} {sp : Sp} {E : XK}
theorem Room.in2 {A : Around} (r : Room (k + 1) A) : Room k A.in1.in1 := ⟨r.hd, by have := r.dp; show A.depth + 3 * k + 5 < _; omega, by have := r.un; show A.units + 1 + 1 + 16 * k + 200 < _; omega⟩
theorem run_fnS2 {pins : List (Addr × Obj)} {σ : St} {H : Hp} {s : Shared} {Q : VK} {f : Addr} {fd : FuncData} {us : List Value} {vs : List V} (F : FnOk X.prog X.w X.K X.mg X.base CX k f fd ps sp) (hr : Room (k + 1) X.A) (hb : Binds X.K fd ps []) (hx : PassesAt CX X σ E)
    (I : Inv X pins σ H s) (r : Vals vs us) (h : sp vs H Q E) : wpAny (model X.prog X.w) X.A.in1.in1 (call (.ref f) us) (EP X pins σ Q) X.xe s := by
  have hl : us.length = ps.length := by rw [← r.length]; exact F.len _ _ _ _ h
  have b := hb s us I.kIn (by rw [List.append_nil]; exact hl)
  rw [List.append_nil] at b
  refine wpAny_call (codeAny_mono (F.run X.A.in1.in1 X.stack s H ⟨us, []⟩ us vs Q E hr.in2 I.env0.in1.in1 b r h) fun r s' hq => ?_)
  cases r with
  | error e => exact hx pins H s e s' I hq
  | ok fl =>
    cases fl with
    | ret u => exact I.after hq
    | next => exact False.elim hq
    | brk => exact False.elim hq
    | cont => exact False.elim hq
open Builtin Builtin.Str in
theorem call_strO (D : DefM X.prog X.w X.K X.mg X.base CX k C "__str__" ps sp) (hr : Room (k + 1) X.A) (hx : ∀ σ, PassesAt CX X σ E) : CallR X (.type "str") (rSp1 C sp E fun v => ∃ z, v = .str z) := by
  obtain ⟨f, fd, hlk, hm, hb, F⟩ := D.ex
  intro pins s σ H xs us Q I r h
  obtain ⟨a, dx, fs, rfl, ea, q⟩ := h
  obtain ⟨u, rfl, ru⟩ := vals1 r
  cases ru
  obtain ⟨mA, O, _⟩ := ins_get I.hok ea
  have run := run_fnS2 (us := [.ref a]) (vs := [.ref a]) F hr hb (hx σ) I (.cons rfl .nil) q
  refine callType_codes (T := "str") (Bi := Builtin.«object.__init__») (Q₁ := fun r s₁ => ∃ y u, r = .str y u ∧ EP X pins σ Q r s₁) PySem.F.called_str (PySem.F.typeCall_str_1 _) PySem.F.entry_object_init ?_ ?_
  · refine codeAny_of_tree ?_
    show wpAny _ X.A.in1.in1 (do checkBuiltinCall "str.__new__" ⟨[.type "str", .ref a], []⟩; again (.builtin "str.__new__" ⟨[.type "str", .ref a], []⟩)) _ _ s
    refine wpAny_bind (wpAny_of_eq (PySem.F.newCall_str_1 _) (wpAny_pure ⟨plainId_quiet (by decide +kernel) _, codeAny_builtin PySem.F.entry_str_new ?_⟩))
    rw [Around.under_plainId (by decide +kernel) _, str_new_tree]
    refine wpAny_bind (wpAny_pure ?_)
    refine wpAny_bind (wpAny_of_eq isSubtype_str_str ?_)
    have key : wpAny (model X.prog X.w) X.A.in1.in1 (PySem.Builtin.Str.strOf (.ref a)) (fun r s₁ => ∃ y u, r = .str y u ∧ EP X pins σ Q r s₁) X.xe s := by
      unfold PySem.Builtin.Str.strOf
      rw [show isExactStr (.ref a) = false from rfl]
      refine wpAny_bind (m := cRoomFor _ _) (wpAny_cRoomFor (Nat.lt_of_le_of_lt (Nat.le_add_right _ 64) hr.in2.units) ?_)
      refine wpAny_bind (m := callSpecial? (.ref a) (Str.ofString "__str__")) (special_own I.kIn O hm (wpAny_mono run (fun v s' ⟨z, H3, I3, rz, ⟨y, ey⟩, q3⟩ => ?_) fun _ _ z => z))
      subst ey
      obtain ⟨t, rfl⟩ := rz
      exact wpAny_pure ⟨_, _, rfl, .str y, H3, I3, ⟨t, rfl⟩, q3⟩
    exact wpAny_bind (wpAny_mono key (fun r s₁ hr => wpAny_pure hr) fun _ _ y => y)
  · rintro obj s₁ ⟨y, u, rfl, hq⟩
    exact ⟨typeIs_str _ _ _, PySem.F.args_object_init_2 _ _, object_init_meets PySem.F.called_str.init.lookup PySem.F.called_str.made (by decide) X.prog X.w X.A.in1 _ s₁ ⟨typeIs_str _ _ _, rfl, hq⟩⟩
end
end L2
set_option Elab.async false
set_option linter.all false
set_option maxRecDepth 100000
set_option maxHeartbeats 4000000
namespace L2
open PySem PySem.Spec PyProof.Rows PySem.HErr
open PySem.W (findIn isFn)
/-- // by any divisor below 2 ^ 9000 -/
def CDivZ (_ j : Int) : Prop := j ≠ 0 ∧ j.natAbs.log2 < 9000
theorem op_fdivZ {X : Cx} : OpR X (binaryOp .FloorDiv) (rI CDivZ fun i j => .int (i.fdiv j)) := opI fun i j _ _ _ _ _ hc q => floordiv_int hc.1 q (.inl (PyProof.noPylong_of_log2 hc.2))
/-- the values that stand for the parameters of __init__ that are left out -/
def DflI (K : PySem.W.Frag) (C : Addr) (ps : List Str) (dvs : List V) : Prop := ∀ f fd, findIn K (.ref C) "__init__" = some (some (.ref f)) → LkF K f fd → ∃ ds, Vals dvs ds ∧ Binds K fd ps ds
section
variable {fr : Fr} {Γ Γ' : Gam} {Θ : List Cel} {F F' H H' : Hp} {K : Vp → List Cel → Prop} {Q : VK} {C : Addr} {sp : Sp} {E : L2.St → XK} {R : V → Prop} {ta tb : TE}
def RP (R : V → Prop) (r : Vp) : Prop := ∀ F v, r.p F v → R v
theorem cb_sp1 {E : XK} {p : Vp} (ic : InsC fr Θ p C) (w : Sps fr [] Θ sp (fun _ => E) [p] fun r Θ3 => RP R r ∧ K r Θ3) : Cbs fr Θ (rSp1 C sp E R) [p] K := fun F H vs ok hps Q k => by
  cases hps with
  | cons h1 hp => cases hp with
    | nil =>
      obtain ⟨a, dx, fs, rfl, h2⟩ := ic F H _ ok h1
      exact ⟨a, dx, fs, rfl, h2, w [] F H _ ok .nil (.cons h1 .nil) _ fun r Θ3 ⟨hr, kk⟩ v F3 H3 s3 ok3 hv => ⟨hr F3 v hv, k _ Θ3 kk _ F3 H3 s3 ok3 hv⟩⟩
theorem rp_S {b : Str} : RP (fun v => ∃ z, v = .str z) (iz yS b) := fun F v h => ⟨b, h.1.1⟩
theorem insC_in {α : Type} {g : α → List (Str × Vp)} {x : α} : InsC fr Θ (iz (zIn C g) x) C := fun F H v ok ⟨a, dx, us, h1, h2, _⟩ => ⟨a, dx, us, h1, ok.fh _ _ h2⟩
end
/-- an own class, all that is asked of it -/
structure ClsA (K : PySem.W.Frag) (mg : Str → Option Value) (C : Addr) (x : Str) (fs : List Str) : Prop extends ClsF K C fs where
  mg : mg x = some (.ref C)
  io : IsO K C
  k1 : PySem.W.kitOne K (.ref C) (.ref C) = some true
  k2 : PySem.W.kitOne K (.type "int") (.ref C) = some false
  k3 : PySem.W.kitAny K (.ref C) [.ref C, .type "int"] = some true
  k4 : PySem.W.kitAny K (.type "int") [.ref C, .type "int"] = some true
  cc : CmpC K C
theorem ClsA.glo {K : PySem.W.Frag} {mg : Str → Option Value} {C : Addr} {x : Str} {fs : List Str} (T : ClsA K mg C x fs) : Glo mg x (.ref C) := ⟨_, T.mg, rfl⟩
theorem InitW.fine {α : Type} {fr fr' : Fr} {x C : Addr} {g : α → List (Str × Vp)} {Qn : L2.St → Hp → Prop} {Q : α → Prop} (h : InitW fr x C g Qn Q) (l : FrLe fr fr') : InitW fr' x C g Qn Q := fun y hy Γ Θ i dx hi σ F H ok env => h y hy Γ Θ i dx hi σ F H (ok.le l) env
section
variable {K : PySem.W.Frag} {qual : Str} {C : Addr} {st : Stmt} {ps : List Str} {f T : Addr} {oc oc' : Value} {od od' an : Option Addr} {osl sl' : Array (Option Value)} {kV doc pm cdv ct : Value} {its : List Value} {n' : Nat} {dvs : List V}
theorem funDI_mk (l : K.lookup f = some ⟨oc, od, .func (PySem.W.fnOf "__init__" qual (defArgs st) (defBody st) (defScope st) (.ref T) kV doc pm an cdv ct), osl⟩) (c : PySem.W.codeIn K cdv qual = true) (k : PySem.W.keepIn K (.ref f) = true)
    (dl : K.lookup T = some ⟨oc', od', .seq its.toArray n', sl'⟩) (rv : Vals dvs its) (hd : dvs ≠ []) : FunD K "__init__" qual (defArgs st) (defBody st) (defScope st) dvs [] f (PySem.W.fnOf "__init__" qual (defArgs st) (defBody st) (defScope st) (.ref T) kV doc pm an cdv ct) :=
  ⟨⟨oc, od, .ref T, kV, doc, pm, an, cdv, ct, osl, rfl, l, c, .inr ⟨hd, T, _, its, n', rfl, dl, rfl, rv⟩, .inl rfl⟩, k⟩
theorem srcID_mk (mk : PySem.W.makesIn K C = true) (kc : PySem.W.keepIn K (.ref C) = true) (a : findIn K (.ref C) "__init__" = some (some (.ref f))) (i : isFn K (.ref f) = true)
    (l : K.lookup f = some ⟨oc, od, .func (PySem.W.fnOf "__init__" qual (defArgs st) (defBody st) (defScope st) (.ref T) kV doc pm an cdv ct), osl⟩) (c : PySem.W.codeIn K cdv qual = true) (k : PySem.W.keepIn K (.ref f) = true)
    (dl : K.lookup T = some ⟨oc', od', .seq its.toArray n', sl'⟩) (rv : Vals dvs its) (hd : dvs ≠ [])
    (hb : ∀ (T : Addr) (kV doc pm : Value) (an : Option Addr) (cdv ct : Value) (us its : List Value), us.length = ps.length → its.length = dvs.length → ∃ k, bindArgs (PySem.W.fnOf "__init__" qual (defArgs st) (defBody st) (defScope st) (.ref T) kV doc pm an cdv ct) ⟨us, []⟩ = seqItems? (.ref T) >>= k ∧ k (some its.toArray) = pure (ps.zip us)) : SrcI K C qual st ps := by
  have F := funDI_mk l c k dl rv hd
  obtain ⟨ds, h1, h2⟩ := F.binds1 (ps := ps) ps.length dvs.length hd (by omega) (fun T kV doc pm an cdv ct us its h1 h2 => by
    obtain ⟨k, e1, e2⟩ := hb T kV doc pm an cdv ct us its h1 h2
    refine ⟨k, e1, ?_⟩
    rw [e2, ← h2, List.drop_length, List.append_nil])
  rw [List.drop_length] at h1
  cases h1
  exact ⟨f, _, ⟨⟨oc, od, .ref T, kV, doc, pm, an, cdv, ct, osl, rfl, l, c⟩, k⟩, ⟨mk, a, i, kc⟩, h2⟩
theorem dflI_mk (n : Nat) (a : findIn K (.ref C) "__init__" = some (some (.ref f))) (l : K.lookup f = some ⟨oc, od, .func (PySem.W.fnOf "__init__" qual (defArgs st) (defBody st) (defScope st) (.ref T) kV doc pm an cdv ct), osl⟩) (c : PySem.W.codeIn K cdv qual = true) (k : PySem.W.keepIn K (.ref f) = true)
    (dl : K.lookup T = some ⟨oc', od', .seq its.toArray n', sl'⟩) (rv : Vals dvs its) (hd : dvs ≠ []) (hn : n + dvs.length = ps.length)
    (hb : ∀ (T : Addr) (kV doc pm : Value) (an : Option Addr) (cdv ct : Value) (us its : List Value), us.length = n → its.length = dvs.length → ∃ k, bindArgs (PySem.W.fnOf "__init__" qual (defArgs st) (defBody st) (defScope st) (.ref T) kV doc pm an cdv ct) ⟨us, []⟩ = seqItems? (.ref T) >>= k ∧ k (some its.toArray) = pure (ps.zip (us ++ its))) : DflI K C ps dvs := by
  intro f' fd' hm ⟨oc2, od2, osl2, lk⟩
  rw [a] at hm
  cases hm
  rw [l] at lk
  cases lk
  have F := funDI_mk l c k dl rv hd
  exact F.binds1 (ps := ps) n 0 hd (by omega) (fun T kV doc pm an cdv ct us its h1 h2 => hb T kV doc pm an cdv ct us its h1 h2)
end
end L2
set_option Elab.async false
set_option linter.all false
set_option maxRecDepth 100000
set_option maxHeartbeats 4000000
namespace L2
open PySem PySem.Spec PyProof.Rows PySem.HErr
abbrev TRw := Str × List Int × List Int
def IxOk (n : Nat) (ks : List Int) : Prop := ks.Nodup ∧ ∀ k ∈ ks, ∃ j : Nat, k = (j : Int) ∧ j < n
/-- the state behind a step -/
def mvF (s t g : List Int) : List Int := (List.range s.length).map fun (j : Nat) => s.getD j 0 - (if (j : Int) ∈ t then 1 else 0) + (if (j : Int) ∈ g then 1 else 0)
theorem mvF_len {s t g : List Int} : (mvF s t g).length = s.length := by unfold mvF; rw [List.length_map, List.length_range]
theorem mvF_get {s t g : List Int} {j : Nat} (h : j < s.length) : (mvF s t g).getD j 0 = s.getD j 0 - (if (j : Int) ∈ t then 1 else 0) + (if (j : Int) ∈ g then 1 else 0) := by
  unfold mvF
  rw [List.getD_eq_getElem?_getD, List.getElem?_map, List.getElem?_range h]
  rfl
def enB (s t : List Int) : Bool := t.all fun k => decide (s.getD k.toNat 0 > 0)
def movF (s t g : List Int) : Option (List Int) := if enB s t = true then some (mvF s t g) else none
def NonN (s : List Int) : Prop := ∀ n ∈ s, 0 ≤ n
theorem NonN.get {s : List Int} (h : NonN s) (j : Nat) : 0 ≤ s.getD j 0 := by
  rw [List.getD_eq_getElem?_getD]
  cases e : s[j]? with
  | none => exact Int.le_refl _
  | some x => exact h x (List.mem_of_getElem? e)
theorem nonN_of {s : List Int} (h : ∀ j < s.length, 0 ≤ s.getD j 0) : NonN s := fun n hn => by
  obtain ⟨j, hj⟩ := List.getElem?_of_mem hn
  have h1 := (List.getElem?_eq_some_iff.mp hj).1
  have := h j h1
  rw [List.getD_eq_getElem?_getD, hj] at this
  exact this
theorem movF_len {s t g z : List Int} (h : movF s t g = some z) : z.length = s.length := by
  unfold movF at h
  split at h
  · cases h; exact mvF_len
  · cases h
theorem movF_non {s t g z : List Int} (hs : NonN s) (ht : IxOk s.length t) (h : movF s t g = some z) : NonN z := by
  unfold movF at h
  split at h
  · rename_i he
    cases h
    refine nonN_of fun j hj => ?_
    rw [mvF_len] at hj
    rw [mvF_get hj]
    have h0 := hs.get j
    by_cases q : (j : Int) ∈ t
    · have := List.all_eq_true.mp he _ q
      have := of_decide_eq_true this
      rw [Int.toNat_natCast] at this
      rw [if_pos q]
      split <;> omega
    · rw [if_neg q]
      split <;> omega
  · cases h
/-- two tables of the same steps -/
def RowR (n : Nat) (a b : TRw) : Prop := a.1 = b.1 ∧ (∀ k, k ∈ a.2.1 ↔ k ∈ b.2.1) ∧ (∀ k, k ∈ a.2.2 ↔ k ∈ b.2.2) ∧ IxOk n a.2.1 ∧ IxOk n a.2.2 ∧ IxOk n b.2.1 ∧ IxOk n b.2.2
abbrev TabRel (n : Nat) (a b : List TRw) : Prop := Paired (RowR n) a b
def TabOk (n : Nat) (a : List TRw) : Prop := (∀ r ∈ a, IxOk n r.2.1 ∧ IxOk n r.2.2) ∧ (a.map (·.1)).Nodup
def rowOf (tab : List TRw) (z : Str) : Option TRw := tab.find? fun r => decide (r.1 = z)
theorem TabRel.row {n : Nat} {a b : List TRw} (h : TabRel n a b) (z : Str) : (rowOf a z = none ∧ rowOf b z = none) ∨ ∃ r r', rowOf a z = some r ∧ rowOf b z = some r' ∧ RowR n r r' := by
  induction h with
  | nil => exact .inl ⟨rfl, rfl⟩
  | @cons r r' as bs hr _ ih =>
    unfold rowOf
    rw [List.find?_cons, List.find?_cons]
    by_cases e : r.1 = z
    · refine .inr ⟨r, r', ?_, ?_, hr⟩
      · rw [decide_eq_true e]
      · rw [decide_eq_true (hr.1.symm.trans e)]
    · rw [decide_eq_false e, decide_eq_false (fun q => e (hr.1.trans q))]
      exact ih
/-- the state behind a run -/
def runF (tab : List TRw) : List Int → List Str → Option (List Int)
  | s, [] => some s
  | s, z :: zs => match rowOf tab z with
    | none => none
    | some r => match movF s r.2.1 r.2.2 with
      | none => none
      | some s' => runF tab s' zs
theorem runF_app (tab : List TRw) : ∀ (zs ys : List Str) (s : List Int), runF tab s (zs ++ ys) = (runF tab s zs).bind fun s' => runF tab s' ys
  | [], ys, s => rfl
  | z :: zs, ys, s => by
    show runF tab s (z :: (zs ++ ys)) = _
    rw [runF, runF]
    cases rowOf tab z with
    | none => rfl
    | some r =>
      dsimp only
      cases movF s r.2.1 r.2.2 with
      | none => rfl
      | some s' => exact runF_app tab zs ys s'
theorem rowOf_mem {tab : List TRw} {z : Str} {r : TRw} (h : rowOf tab z = some r) : r ∈ tab ∧ r.1 = z := ⟨List.mem_of_find?_eq_some h, of_decide_eq_true (List.find?_some (p := fun r : TRw => decide (r.1 = z)) h)⟩
theorem runF_keep {n : Nat} {tab : List TRw} (ht : TabOk n tab) : ∀ (zs : List Str) {s z : List Int}, s.length = n → NonN s → runF tab s zs = some z → z.length = n ∧ NonN z
  | [], s, z, hl, hn, h => by cases h; exact ⟨hl, hn⟩
  | y :: zs, s, z, hl, hn, h => by
    unfold runF at h
    cases e : rowOf tab y with
    | none => rw [e] at h; cases h
    | some r =>
      rw [e] at h
      dsimp only at h
      cases e2 : movF s r.2.1 r.2.2 with
      | none => rw [e2] at h; cases h
      | some s' =>
        rw [e2] at h
        exact runF_keep ht zs ((movF_len e2).trans hl) (movF_non hn (by rw [hl]; exact (ht.1 r (rowOf_mem e).1).1) e2) h
theorem TabRel.names {n : Nat} {a b : List TRw} (h : TabRel n a b) : a.map (·.1) = b.map (·.1) := by
  induction h with
  | nil => rfl
  | cons hr _ ih => rw [List.map_cons, List.map_cons, hr.1, ih]
/-- where ways meet: what is known there, what follows, and each way -/
theorem joinD_inv {S : Type} {f : (S → Prop) → Prop} {k : S → Prop} (I : S → Prop) (hk : ∀ s, I s → k s) (hf : ∀ k' : S → Prop, (∀ s, I s → k' s) → f k') : joinD f k := hf k hk
end L2
set_option Elab.async false
set_option linter.all false
set_option maxRecDepth 100000
set_option maxHeartbeats 4000000
namespace L2
open PySem PySem.Spec PyProof.Rows PySem.HErr
open PySem.W (findIn isFn)
structure SrcIK (K : PySem.W.Frag) (C : Addr) (qual : Str) (st : Stmt) : Prop where
  ex : ∃ f fd, FunA K "__init__" qual st f fd ∧ Mk K C f
structure DefIK (P : Program) (w : World) (K : PySem.W.Frag) (mg : Str → Option Value) (base : Heap) (CX : CXT) (k : Nat) (C : Addr) (ps : List Str) (sp : Sp) : Prop where
  ex : ∃ f fd, LkF K f fd ∧ Mk K C f ∧ FnOk P w K mg base CX k f fd ps sp
section
variable {P : Program} {w : World} {K : PySem.W.Frag} {mg : Str → Option Value} {base : Heap} {CX : CXT} {qual : Str} {C : Addr} {st : Stmt} {N ps : List Str} {k : Nat} {sp : Sp} {pre : Pre} {ef : HE → Er}
theorem DefIK.mono {j : Nat} (D : DefIK P w K mg base CX j C ps sp) (h : j ≤ k) : DefIK P w K mg base CX k C ps sp := by
  obtain ⟨f, fd, hlk, h1, h3⟩ := D.ex
  exact ⟨f, fd, hlk, h1, h3.mono h⟩
theorem SrcIK.okX (F : SrcIK K C qual st) (S : FnScope N ps (defScope st)) (len : ∀ vs H Q E, sp vs H Q E → vs.length = ps.length)
    (hbody : ∀ (f : Addr) (cdv : Value) (A : Around) (outer : List Env) (s : Shared) (H : Hp) (vs : List V) (Q : VK) (E : XK), Room k (A.deeper (envOfC qual (defScope st) s.heap.objs.size f cdv)) → sp vs H Q E →
      ∃ t, PSs (cxOf (L2.CX P w) P w K mg base N qual (defScope st) f cdv A outer s H E) (defBody st) t ∧ t { nx := fun _ H' => Q .non H', rt := Q } (start N vs) H) : DefIK P w K mg base (L2.CX P w) (k + 1) C ps sp := by
  obtain ⟨f, fd, h1, h2⟩ := F.ex
  exact ⟨f, fd, h1.lk, h2, h1.okX S len (hbody f)⟩
theorem SrcIK.okAX (F : SrcIK K C qual st) (S : FnScope N ps (defScope st)) (len : ∀ qs out err, pre qs out err → qs.length + 1 = ps.length)
    (hbody : ∀ (f : Addr) (cdv : Value) (A : Around) (outer : List Env) (s : Shared) (H : Hp) (E : XK) (qs : List Vp) (out : Vp → Prop) (err : Er → Prop), Room k (A.deeper (envOfC qual (defScope st) s.heap.objs.size f cdv)) → pre qs out err →
      ∃ t, PSs (cxOf (L2.CX P w) P w K mg base N qual (defScope st) f cdv A outer s H E) (defBody st) t ∧ ∀ fr x dx (Q : L2.St → Hp → Prop) (rt : VK), (∀ p, out p → ∀ σ F H, (∃ Θ, OkF fr Θ F H) → p.p F (.ref x) → Q σ H) → (∀ p, out p → ∀ F H, (∃ Θ, OkF fr Θ F H) → p.p F (.ref x) → rt .non H) → Rse fr E err →
        Kn fr (envOf N (zAt x :: qs)) [cI x C dx []] (t { nx := Q, rt := rt })) : DefIK P w K mg base (L2.CX P w) (k + 1) C ps (spI C pre) := by
  refine F.okX S (fun vs H Q E h => ?_) (fun f cdv A outer s H vs Q E hr h => ?_)
  · obtain ⟨x, dx, vs', F, qs, out, err, rfl, _, _, _, h2, h3, _⟩ := h
    rw [List.length_cons, ← Paired.len h2]
    exact len _ _ _ h3
  · obtain ⟨x, dx, vs', F, qs, out, err, rfl, hx, fx, fh, h2, h3, h4, h5⟩ := h
    obtain ⟨t, ht, hk⟩ := hbody f cdv A outer s H E qs out err hr h3
    have post : ∀ {Θ : List Cel} {F' H' : Hp}, OkF ⟨F, minus H x, []⟩ Θ F' H' → Same (minus H x) H' ∧ Same F F' ∧ Same F' H' ∧ Newer F (minus H x) F' := fun ok => ⟨fun a o h => ok.h0 a o (by simp) h, ok.f0, ok.fh, ok.nw⟩
    have c1 : ∀ p, out p → ∀ (σ : L2.St) F' H', (∃ Θ, OkF ⟨F, minus H x, []⟩ Θ F' H') → p.p F' (.ref x) → Q .non H' := fun p hp σ F' H' ⟨Θ, ok⟩ hv => by
      obtain ⟨a, b, c, d⟩ := post ok
      exact h4 p hp F' H' a b c d hv
    have c2 : Rse ⟨F, minus H x, []⟩ E err := fun e he Θ F' H' d us ok hd hf => by
      obtain ⟨a, b, c, n⟩ := post ok
      exact h5 e he F' H' d us a b c n hd hf
    exact ⟨t, ht, hk ⟨F, minus H x, []⟩ x dx (fun _ H' => Q .non H') Q c1 (fun p hp F' H' => c1 p hp [] F' H') c2 _ F H (okf_init hx fx fh) (env_start (vs := .ref x :: vs') (.cons rfl h2))⟩
theorem SrcIK.okW {α β : Type} {args : α → List Vp} {md : α → DM β} {g : β → List (Str × Vp)} (F : SrcIK K C qual st) (S : FnScope N ps (defScope st)) (len : ∀ x, (args x).length + 1 = ps.length)
    (hbody : ∀ (f : Addr) (cdv : Value) (A : Around) (outer : List Env) (s : Shared) (H : Hp) (E : XK) (a : α) (Q : β → Prop) (X : HE → Prop), Room k (A.deeper (envOfC qual (defScope st) s.heap.objs.size f cdv)) → md a Q X →
      ∃ t, PSs (cxOf (L2.CX P w) P w K mg base N qual (defScope st) f cdv A outer s H E) (defBody st) t ∧ ∀ fr x dx (Qn : L2.St → Hp → Prop) (rt : VK), InitW fr x C g Qn Q → RseW fr E ef X → Kn fr (envOf N (zAt x :: args a)) [cI x C dx []] (t { nx := Qn, rt := rt })) : DefIK P w K mg base (L2.CX P w) (k + 1) C ps (spI C (preW ef args (zIn C g) md)) :=
  F.okAX S (fun qs out err ⟨a, Q, X, e, _⟩ => by rw [e]; exact len a) fun f cdv A outer s H E qs out err hr ⟨a, Q, X, e1, h, e2, e3⟩ => by
    subst e1 e2 e3
    obtain ⟨t, ht, hk⟩ := hbody f cdv A outer s H E a Q X hr h
    refine ⟨t, ht, fun fr x dx Qn rt hq hrt hrse => hk fr x dx Qn rt (fun y hy Γ Θ i dx' hi σ F' H' ok env => ?_) fun z hz Γ Θ => kr_E hrse ⟨z, hz, rfl⟩⟩
    obtain ⟨h1, ⟨o, h2, us, rfl, h4⟩, h5⟩ := ok.ce _ (List.mem_of_getElem? hi)
    have ok2 := ok.frz hi rfl h2
    have sF : Same F' (upd F' x (.ins C dx' us)) := same_upd h1
    exact hq _ ⟨y, hy, rfl⟩ σ _ H' ⟨_, ok2⟩ ⟨x, dx', us, rfl, upd_same, h4.mono sF⟩
end
end L2
set_option Elab.async false
set_option linter.all false
set_option maxRecDepth 100000
set_option maxHeartbeats 4000000
namespace L2
open PySem PySem.Spec PyProof.Rows PySem.HErr
end L2
set_option Elab.async false
set_option linter.all false
set_option maxRecDepth 100000
set_option maxHeartbeats 4000000
namespace L2
open PySem PySem.Spec PyProof.Rows PySem.HErr
/-- an address as a thing -/
def zR : Rep Addr := ⟨fun _ v a => v = .ref a, fun _ h => h⟩
/-- ghost rows of a dict of own lists: key, the list's place, what is in it -/
abbrev GR (α : Type) := List (List Int × Addr × List α)
def gK {α : Type} (g : GR α) : List (List Int × Addr) := g.map fun x => (x.1, x.2.1)
def gC {α : Type} (r : Rep α) (g : GR α) : List Cel := g.map fun x => cY x.2.1 r x.2.2
def GNd {α : Type} (g : GR α) : Prop := (g.map (·.1)).Nodup
end L2
set_option Elab.async false
set_option linter.all false
set_option maxRecDepth 100000
set_option maxHeartbeats 4000000
namespace L2
open PySem PySem.Spec PyProof.Rows PySem.HErr
section
variable {fr fr' : Fr} {Γ Γ' : Gam} {Θ Θ' : List Cel} {F F' H H' : Hp} {K : Vp → List Cel → Prop} {Qv : VK}
theorem gK_set {α : Type} {g : GR α} {m : Nat} {k : List Int} {b : Addr} {v v' : List α} (h : g[m]? = some (k, b, v)) : gK (g.set m (k, b, v')) = gK g := by
  unfold gK
  rw [List.map_set]
  refine List.ext_getElem? fun j => ?_
  rw [List.getElem?_set, List.length_map]
  split
  · rename_i e
    subst e
    rw [List.getElem?_map, h]
    split
    · rfl
    · rename_i q
      exact absurd (List.getElem?_eq_some_iff.mp h).1 q
  · rfl
theorem GNd.set {α : Type} {g : GR α} {m : Nat} {k : List Int} {b : Addr} {v v' : List α} (n : GNd g) (h : g[m]? = some (k, b, v)) : GNd (g.set m (k, b, v')) := by
  have e : (g.set m (k, b, v')).map (·.1) = (gK (g.set m (k, b, v'))).map (·.1) := by unfold gK; rw [List.map_map]; rfl
  unfold GNd
  rw [e, gK_set h]
  unfold gK
  rw [List.map_map]
  exact n
end
end L2
set_option Elab.async false
set_option linter.all false
set_option maxRecDepth 100000
set_option maxHeartbeats 4000000
namespace L2
open PySem PySem.Spec PyProof.Rows PySem.HErr
def RetNW {β : Type} (fr : Fr) (Qv : VK) (res : β → List Addr → Vp) (cel : β → List Addr → List Cel) (Q : β → Prop) : Prop := ∀ y as, Q y → ∀ Θ'' Θx, Θ''.Perm (cel y as ++ Θx) → Rt fr Θ'' Qv (res y as)
section
variable {fr fr' : Fr} {Γ Γ' : Gam} {Θ Θ' Θr : List Cel} {F F' H H' : Hp} {K : Vp → List Cel → Prop} {Qv : VK}
theorem RetNW.fine {β : Type} {res : β → List Addr → Vp} {cel : β → List Addr → List Cel} {Q : β → Prop} (h : RetNW fr Qv res cel Q) (l : FrLe fr fr') : RetNW fr' Qv res cel Q := fun y as hy Θ'' Θx pm => (h y as hy Θ'' Θx pm).fine l
/-- what may be known while the cells Θb are lent -/
def LendR (Θb : List Cel) (F Fl : Hp) : Prop := Same F Fl ∧ ∀ c ∈ Θb, ∃ o, Fl c.a = some o ∧ c.φ F o
/-- an own list, seen as a value -/
theorem LendR.lst {α : Type} {r : Rep α} {a : Addr} {xs : List α} {Fl : Hp} (h : LendR Θ F Fl) {j : Nat} (hj : Θ[j]? = some (cY a r xs)) {v : V} (hv : (iz zR a).p F v) : (iz (yL r) xs).p Fl v := by
  obtain ⟨o, h2, ⟨⟨vs, rfl, h4⟩, h5⟩⟩ := h.2 _ (List.mem_of_getElem? hj)
  have hv : v = .ref a := hv
  subst hv
  exact ⟨⟨a, vs, rfl, h2, Paired.imp2 (fun _ _ q => r.mono h.1 q) h4⟩, h5⟩
end
end L2
set_option Elab.async false
set_option linter.all false
set_option maxRecDepth 100000
set_option maxHeartbeats 4000000
namespace L2
open PySem PySem.Spec PyProof.Rows PySem.HErr
end L2
set_option Elab.async false
set_option linter.all false
set_option maxRecDepth 100000
set_option maxHeartbeats 4000000
namespace L2
open PySem PySem.Spec PyProof.Rows PySem.HErr
end L2
set_option Elab.async false
set_option linter.all false
set_option maxRecDepth 100000
set_option maxHeartbeats 4000000
namespace L2
open PySem PySem.Spec PyProof.Rows PySem.HErr
end L2
set_option Elab.async false
set_option linter.all false
set_option maxRecDepth 100000
set_option maxHeartbeats 4000000
namespace L2
open PySem PySem.Spec PyProof.Rows PySem.HErr
open PySem.W (findIn isFn)
end L2
set_option Elab.async false
set_option linter.all false
set_option maxRecDepth 100000
set_option maxHeartbeats 4000000
namespace L2
open PySem PySem.Spec PyProof.Rows PySem.HErr
instance {α β : Type} {r : Rep α} {s : Rep β} [d : XDat r] [e : XDat s] : XDat (yU r s) := ⟨fun x => match x with | .inl a => d.enc a | .inr b => e.enc b, max d.dep e.dep, fun {F v x} h => by
  cases x with
  | inl a => exact ⟨(d.xd h).1, Nat.le_trans (d.xd h).2 (Nat.le_max_left _ _)⟩
  | inr b => exact ⟨(e.xd h).1, Nat.le_trans (e.xd h).2 (Nat.le_max_right _ _)⟩⟩
instance {α β : Type} {r : Rep α} {s : Rep β} [d : NotNon r] [e : NotNon s] : NotNon (yU r s) := ⟨fun F v x h => by
  cases x with
  | inl a => exact d.nn F v a h
  | inr b => exact e.nn F v b h⟩
end L2
set_option Elab.async false
set_option linter.all false
set_option maxRecDepth 100000
set_option maxHeartbeats 4000000
namespace L2
open PySem PySem.Spec PyProof.Rows PySem.HErr
class EDat {α : Type} (r : Rep α) where
  enc : α → PyData
  dep : Nat
  dp : ∀ {Kf : PySem.W.Frag} {F : Hp} {v : V} {x : α}, r.p F v x → Dp Kf F v (enc x)
  cl : ∀ {F : Hp} {v : V} {x : α}, r.p F v x → (enc x).canLay0 = true
  dl : ∀ {F : Hp} {v : V} {x : α}, r.p F v x → (enc x).depth ≤ dep
instance (priority := low) edX {α : Type} {r : Rep α} [d : XDat r] : EDat r := ⟨d.enc, d.dep, fun {Kf F v x} h => (xp_dp (Kf := Kf) _ _ (d.xd h).1).1, fun {F v x} h => lay_nb _ (xp_dp (Kf := []) _ _ (d.xd h).1).2, fun h => (d.xd h).2⟩
instance edB : EDat zB := ⟨PyData.bool, 0, fun h => by cases (show _ = V.bl _ from h); exact .bl _, fun _ => by simp only [PyData.canLay0], fun _ => by simp [PyData.depth]⟩
instance edN : EDat yN := ⟨fun _ => PyData.none, 0, fun h => by cases (show _ = V.non from h); exact .non, fun _ => by simp only [PyData.canLay0], fun _ => by simp [PyData.depth]⟩
instance ed2 {α β : Type} {r : Rep α} {s : Rep β} [d : EDat r] [e : EDat s] : EDat (z2 r s) := ⟨fun x => .tuple [d.enc x.1, e.enc x.2], max d.dep e.dep + 1, fun ⟨a, v1, v2, h1, h2, h3, h4⟩ => by subst h1; exact .tup (SqT.of h2) (.cons (d.dp h3) (.cons (e.dp h4) .nil)),
  fun ⟨a, v1, v2, h1, h2, h3, h4⟩ => by simp only [PyData.canLay0, PyData.canLayAll0, d.cl h3, e.cl h4, Bool.and_self],
  fun ⟨a, v1, v2, h1, h2, h3, h4⟩ => by
    have := d.dl h3
    have := e.dl h4
    simp only [PyData.depth, PyData.depthAll]
    omega⟩
instance ed3 {α β γ : Type} {r : Rep α} {s : Rep β} {t : Rep γ} [d : EDat r] [e : EDat s] [f : EDat t] : EDat (z3 r s t) := ⟨fun x => .tuple [d.enc x.1, e.enc x.2.1, f.enc x.2.2], max d.dep (max e.dep f.dep) + 1, fun ⟨a, v1, v2, v3, h1, h2, h3, h4, h5⟩ => by subst h1; exact .tup (SqT.of h2) (.cons (d.dp h3) (.cons (e.dp h4) (.cons (f.dp h5) .nil))),
  fun ⟨a, v1, v2, v3, h1, h2, h3, h4, h5⟩ => by simp only [PyData.canLay0, PyData.canLayAll0, d.cl h3, e.cl h4, f.cl h5, Bool.and_self],
  fun ⟨a, v1, v2, v3, h1, h2, h3, h4, h5⟩ => by
    have := d.dl h3
    have := e.dl h4
    have := f.dl h5
    simp only [PyData.depth, PyData.depthAll]
    omega⟩
instance edO {α : Type} {r : Rep α} [d : EDat r] : EDat (yO r) := ⟨fun x => match x with | none => .none | some y => d.enc y, d.dep, fun {Kf F v x} h => by
    cases x with
    | none => cases (show v = V.non from h); exact .non
    | some y => exact d.dp h,
  fun {F v x} h => by
    cases x with
    | none => simp only [PyData.canLay0]
    | some y => exact d.cl h,
  fun {F v x} h => by
    cases x with
    | none => simp [PyData.depth]
    | some y => exact d.dl h⟩
instance edU {α β : Type} {r : Rep α} {s : Rep β} [d : EDat r] [e : EDat s] : EDat (yU r s) := ⟨fun x => match x with | .inl a => d.enc a | .inr b => e.enc b, max d.dep e.dep, fun {Kf F v x} h => by
    cases x with
    | inl a => exact d.dp h
    | inr b => exact e.dp h,
  fun {F v x} h => by
    cases x with
    | inl a => exact d.cl h
    | inr b => exact e.cl h,
  fun {F v x} h => by
    cases x with
    | inl a => exact Nat.le_trans (d.dl h) (Nat.le_max_left ..)
    | inr b => exact Nat.le_trans (e.dl h) (Nat.le_max_right ..)⟩
end L2
set_option Elab.async false
set_option linter.all false
set_option maxRecDepth 100000
set_option maxHeartbeats 4000000
namespace L2
open PySem PySem.Spec PyProof.Rows PySem.HErr
instance {α β : Type} {r : Rep α} {s : Rep β} [d : XDat r] [e : XDat s] [b : XBack r] [c : XBack s] [m : XNoS s] : XBack (z2 r s) := ⟨fun {F v x} h hd => by
  simp only [XDat.enc, xp] at h
  obtain ⟨a, vs, h1, h2, h3, h4⟩ := h
  simp only [xpAll] at h4
  obtain ⟨v1, r1, rfl, h5, v2, r2, rfl, h6, rfl⟩ := h4
  simp only [XDat.enc, PyData.depth, PyData.depthAll] at hd
  exact ⟨a, v1, v2, h1, h2.nar (by rw [isSDs_no (List.mem_cons_of_mem _ (List.mem_cons_self ..)) (m.ns x.2)]; rfl), b.bk h5 (by omega), c.bk h6 (by omega)⟩⟩
instance {α β : Type} {r : Rep α} {s : Rep β} [d : XDat r] [e : XDat s] [b : XBack r] [c : XBack s] [n : XNoS r] : XBack (z2 r s) := ⟨fun {F v x} h hd => by
  simp only [XDat.enc, xp] at h
  obtain ⟨a, vs, h1, h2, h3, h4⟩ := h
  simp only [xpAll] at h4
  obtain ⟨v1, r1, rfl, h5, v2, r2, rfl, h6, rfl⟩ := h4
  simp only [XDat.enc, PyData.depth, PyData.depthAll] at hd
  exact ⟨a, v1, v2, h1, h2.nar (by rw [isSDs_no (List.mem_cons_self ..) (n.ns x.1)]; rfl), b.bk h5 (by omega), c.bk h6 (by omega)⟩⟩
end L2
set_option Elab.async false
set_option linter.all false
set_option maxRecDepth 100000
set_option maxHeartbeats 4000000
namespace L2
open PySem PySem.Spec PyProof.Rows PySem.HErr
/-- the classmethod m of the class at C stands in its def -/
structure SrcC (K : PySem.W.Frag) (C : Addr) (m qual : Str) (st : Stmt) (ps : List Str) : Prop where
  ex : ∃ p f fd, FunA K m qual st f fd ∧ ClX.CRead K C (.type "type") ∧ ClX.CMet K C (.type "type") m p f ∧ Binds K fd ps []
structure DefC (P : Program) (w : World) (K : PySem.W.Frag) (mg : Str → Option Value) (base : Heap) (CX : CXT) (k : Nat) (C : Addr) (m : Str) (ps : List Str) (sp : Sp) : Prop where
  ex : ∃ p f fd, LkF K f fd ∧ ClX.CRead K C (.type "type") ∧ ClX.CMet K C (.type "type") m p f ∧ Binds K fd ps [] ∧ FnOk P w K mg base CX k f fd ps sp
section
variable {P : Program} {w : World} {K : PySem.W.Frag} {mg : Str → Option Value} {base : Heap} {CX : CXT} {m qual : Str} {C : Addr} {st : Stmt} {N ps : List Str} {k j : Nat} {sp : Sp}
theorem DefC.mono (D : DefC P w K mg base CX j C m ps sp) (h : j ≤ k) : DefC P w K mg base CX k C m ps sp := by
  obtain ⟨p, f, fd, h1, h2, h3, h4, h5⟩ := D.ex
  exact ⟨p, f, fd, h1, h2, h3, h4, h5.mono h⟩
theorem SrcC.okX (F : SrcC K C m qual st ps) (S : FnScope N ps (defScope st)) (len : ∀ vs H Q E, sp vs H Q E → vs.length = ps.length)
    (hbody : ∀ (f : Addr) (cdv : Value) (A : Around) (outer : List Env) (s : Shared) (H : Hp) (vs : List V) (Q : VK) (E : XK), Room k (A.deeper (envOfC qual (defScope st) s.heap.objs.size f cdv)) → sp vs H Q E →
      ∃ t, PSs (cxOf (L2.CX P w) P w K mg base N qual (defScope st) f cdv A outer s H E) (defBody st) t ∧ t { nx := fun _ H' => Q .non H', rt := Q } (start N vs) H) : DefC P w K mg base (L2.CX P w) (k + 1) C m ps sp := by
  obtain ⟨p, f, fd, h1, h2, h3, h4⟩ := F.ex
  exact ⟨p, f, fd, h1.lk, h2, h3, h4, h1.okX S len (hbody f)⟩
theorem SrcC.okAX {pre : Pre} (F : SrcC K C m qual st ps) (S : FnScope N ps (defScope st)) (len : ∀ qs out err, pre qs out err → qs.length = ps.length)
    (hbody : ∀ (f : Addr) (cdv : Value) (A : Around) (outer : List Env) (s : Shared) (H : Hp) (E : XK) (qs : List Vp) (out : Vp → Prop) (err : Er → Prop), Room k (A.deeper (envOfC qual (defScope st) s.heap.objs.size f cdv)) → pre qs out err →
      ∃ t, PSs (cxOf (L2.CX P w) P w K mg base N qual (defScope st) f cdv A outer s H E) (defBody st) t ∧ ∀ fr Q, Ret fr Q out → Rse fr E err → Kn fr (envOf N qs) [] (t { nx := fun _ H' => Q .non H', rt := Q })) : DefC P w K mg base (L2.CX P w) (k + 1) C m ps (spA pre) := by
  refine F.okX S (fun vs H Q E h => ?_) (fun f cdv A outer s H vs Q E hr h => ?_)
  · obtain ⟨F, qs, out, err, _, h2, h3, _⟩ := h
    rw [← Paired.len h2]
    exact len _ _ _ h3
  · obtain ⟨F, qs, out, err, h1, h2, h3, h4, h5⟩ := h
    obtain ⟨t, ht, hk⟩ := hbody f cdv A outer s H E qs out err hr h3
    exact ⟨t, ht, hk _ Q h4.ret h5.rse _ F H (OkF.start h1) (env_start h2)⟩
theorem SrcC.okWX {α β : Type} {ef : HE → Er} {args : α → List Vp} {r : Rep β} {md : α → DM β} (F : SrcC K C m qual st ps) (S : FnScope N ps (defScope st)) (len : ∀ x, (args x).length = ps.length)
    (hbody : ∀ (f : Addr) (cdv : Value) (A : Around) (outer : List Env) (s : Shared) (H : Hp) (E : XK) (a : α) (Q : β → Prop) (X : HE → Prop), Room k (A.deeper (envOfC qual (defScope st) s.heap.objs.size f cdv)) → md a Q X →
      ∃ t, PSs (cxOf (L2.CX P w) P w K mg base N qual (defScope st) f cdv A outer s H E) (defBody st) t ∧ ∀ fr Qv, RetW fr Qv r Q → RseW fr E ef X → Kn fr (envOf N (args a)) [] (t { nx := fun _ H' => Qv .non H', rt := Qv })) : DefC P w K mg base (L2.CX P w) (k + 1) C m ps (spA (preW ef args r md)) :=
  F.okAX S (fun qs out err ⟨a, Q, X, e, _⟩ => by rw [e]; exact len a) fun f cdv A outer s H E qs out err hr ⟨a, Q, X, e1, h, e2, e3⟩ => by
    subst e1 e2 e3
    obtain ⟨t, ht, hk⟩ := hbody f cdv A outer s H E a Q X hr h
    exact ⟨t, ht, fun fr Qv hret hrse => hk fr Qv (fun y hy Θ => hret _ ⟨y, hy, rfl⟩ Θ) fun z hz Γ Θ => kr_E hrse ⟨z, hz, rfl⟩⟩
end
end L2
set_option Elab.async false
set_option linter.all false
set_option maxRecDepth 100000
set_option maxHeartbeats 4000000
namespace L2
open PySem PySem.Spec PyProof.Rows PySem.HErr
end L2
set_option Elab.async false
set_option linter.all false
set_option maxRecDepth 100000
set_option maxHeartbeats 4000000
namespace L2
open PySem PySem.Spec PyProof.Rows PySem.HErr
end L2
set_option Elab.async false
set_option linter.all false
set_option maxRecDepth 100000
set_option maxHeartbeats 4000000
namespace L2
open PySem PySem.Spec PyProof.Rows PySem.HErr
def Reach (tab : List TRw) (s z : List Int) : Prop := ∃ zs, runF tab s zs = some z
theorem Reach.refl {tab : List TRw} {s : List Int} : Reach tab s s := ⟨[], rfl⟩
theorem Reach.trans {tab : List TRw} {a b c : List Int} (h : Reach tab a b) (g : Reach tab b c) : Reach tab a c := by
  obtain ⟨zs, h⟩ := h
  obtain ⟨ys, g⟩ := g
  exact ⟨zs ++ ys, by rw [runF_app, h]; exact g⟩
theorem Reach.keep {n : Nat} {tab : List TRw} (tk : TabOk n tab) {s z : List Int} (hs : s.length = n) (hn : NonN s) (h : Reach tab s z) : z.length = n ∧ NonN z := by
  obtain ⟨zs, h⟩ := h
  exact runF_keep tk zs hs hn h
end L2
set_option Elab.async false
set_option linter.all false
set_option maxRecDepth 100000
set_option maxHeartbeats 4000000
namespace L2
open PySem PySem.Spec PyProof.Rows PySem.HErr
section
variable {fr : Fr} {Γ : Gam} {Θ : List Cel} {K : Vp → List Cel → Prop}
theorem kn_nrm {Γ' : Gam} {M : L2.St → Hp → Prop} (e : Γ = Γ') (k : Kn fr Γ' Θ M) : Kn fr Γ Θ M := e ▸ k
end
end L2
set_option Elab.async false
set_option linter.all false
set_option maxRecDepth 100000
set_option maxHeartbeats 4000000
namespace L2
open PySem PySem.Spec PyProof.Rows PySem.HErr
end L2
set_option Elab.async false
set_option linter.all false
set_option maxRecDepth 100000
set_option maxHeartbeats 4000000
namespace L2
open PySem PySem.Spec PyProof.Rows PySem.HErr
end L2
set_option Elab.async false
set_option linter.all false
set_option maxRecDepth 100000
set_option maxHeartbeats 4000000
namespace L2
open PySem PySem.Spec PyProof.Rows PySem.HErr
open TL
/-- C.m is a staticmethod: its record at p, its def at g -/
structure SMet (K : PySem.W.Frag) (C : Addr) (m : Str) (p g : Addr) : Prop where
  at_ : PySem.W.findCls K (.ref C) (.type "type") m = some (.get (.builtin "staticmethod.__get__") (.ref p) .none (.ref C))
  rc : ∃ rest, PySem.W.recIn K p "staticmethod" = some (.ref g :: rest)
  kp : PySem.W.keepIn K (.ref g) = true
structure SrcS (K : PySem.W.Frag) (C : Addr) (m qual : Str) (st : Stmt) (ps : List Str) : Prop where
  ex : ∃ p f fd, FunA K m qual st f fd ∧ ClX.CRead K C (.type "type") ∧ SMet K C m p f ∧ Binds K fd ps []
structure DefS (P : Program) (w : World) (K : PySem.W.Frag) (mg : Str → Option Value) (base : Heap) (CX : CXT) (k : Nat) (C : Addr) (m : Str) (ps : List Str) (sp : Sp) : Prop where
  ex : ∃ p f fd, LkF K f fd ∧ ClX.CRead K C (.type "type") ∧ SMet K C m p f ∧ Binds K fd ps [] ∧ FnOk P w K mg base CX k f fd ps sp
section
variable {P : Program} {w : World} {K : PySem.W.Frag} {mg : Str → Option Value} {base : Heap} {CX : CXT} {m qual : Str} {C : Addr} {st : Stmt} {N ps : List Str} {k j : Nat} {sp : Sp}
theorem DefS.mono (D : DefS P w K mg base CX j C m ps sp) (h : j ≤ k) : DefS P w K mg base CX k C m ps sp := by
  obtain ⟨p, f, fd, h1, h2, h3, h4, h5⟩ := D.ex
  exact ⟨p, f, fd, h1, h2, h3, h4, h5.mono h⟩
theorem SrcS.okX (F : SrcS K C m qual st ps) (S : FnScope N ps (defScope st)) (len : ∀ vs H Q E, sp vs H Q E → vs.length = ps.length)
    (hbody : ∀ (f : Addr) (cdv : Value) (A : Around) (outer : List Env) (s : Shared) (H : Hp) (vs : List V) (Q : VK) (E : XK), Room k (A.deeper (envOfC qual (defScope st) s.heap.objs.size f cdv)) → sp vs H Q E →
      ∃ t, PSs (cxOf (L2.CX P w) P w K mg base N qual (defScope st) f cdv A outer s H E) (defBody st) t ∧ t { nx := fun _ H' => Q .non H', rt := Q } (start N vs) H) : DefS P w K mg base (L2.CX P w) (k + 1) C m ps sp := by
  obtain ⟨p, f, fd, h1, h2, h3, h4⟩ := F.ex
  exact ⟨p, f, fd, h1.lk, h2, h3, h4, h1.okX S len (hbody f)⟩
theorem SrcS.okAX {pre : Pre} (F : SrcS K C m qual st ps) (S : FnScope N ps (defScope st)) (len : ∀ qs out err, pre qs out err → qs.length = ps.length)
    (hbody : ∀ (f : Addr) (cdv : Value) (A : Around) (outer : List Env) (s : Shared) (H : Hp) (E : XK) (qs : List Vp) (out : Vp → Prop) (err : Er → Prop), Room k (A.deeper (envOfC qual (defScope st) s.heap.objs.size f cdv)) → pre qs out err →
      ∃ t, PSs (cxOf (L2.CX P w) P w K mg base N qual (defScope st) f cdv A outer s H E) (defBody st) t ∧ ∀ fr Q, Ret fr Q out → Rse fr E err → Kn fr (envOf N qs) [] (t { nx := fun _ H' => Q .non H', rt := Q })) : DefS P w K mg base (L2.CX P w) (k + 1) C m ps (spA pre) := by
  refine F.okX S (fun vs H Q E h => ?_) (fun f cdv A outer s H vs Q E hr h => ?_)
  · obtain ⟨F, qs, out, err, _, h2, h3, _⟩ := h
    rw [← Paired.len h2]
    exact len _ _ _ h3
  · obtain ⟨F, qs, out, err, h1, h2, h3, h4, h5⟩ := h
    obtain ⟨t, ht, hk⟩ := hbody f cdv A outer s H E qs out err hr h3
    exact ⟨t, ht, hk _ Q h4.ret h5.rse _ F H (OkF.start h1) (env_start h2)⟩
theorem SrcS.okWX {α β : Type} {ef : HE → Er} {args : α → List Vp} {r : Rep β} {md : α → DM β} (F : SrcS K C m qual st ps) (S : FnScope N ps (defScope st)) (len : ∀ x, (args x).length = ps.length)
    (hbody : ∀ (f : Addr) (cdv : Value) (A : Around) (outer : List Env) (s : Shared) (H : Hp) (E : XK) (a : α) (Q : β → Prop) (X : HE → Prop), Room k (A.deeper (envOfC qual (defScope st) s.heap.objs.size f cdv)) → md a Q X →
      ∃ t, PSs (cxOf (L2.CX P w) P w K mg base N qual (defScope st) f cdv A outer s H E) (defBody st) t ∧ ∀ fr Qv, RetW fr Qv r Q → RseW fr E ef X → Kn fr (envOf N (args a)) [] (t { nx := fun _ H' => Qv .non H', rt := Qv })) : DefS P w K mg base (L2.CX P w) (k + 1) C m ps (spA (preW ef args r md)) :=
  F.okAX S (fun qs out err ⟨a, Q, X, e, _⟩ => by rw [e]; exact len a) fun f cdv A outer s H E qs out err hr ⟨a, Q, X, e1, h, e2, e3⟩ => by
    subst e1 e2 e3
    obtain ⟨t, ht, hk⟩ := hbody f cdv A outer s H E a Q X hr h
    exact ⟨t, ht, fun fr Qv hret hrse => hk fr Qv (fun y hy Θ => hret _ ⟨y, hy, rfl⟩ Θ) fun z hz Γ Θ => kr_E hrse ⟨z, hz, rfl⟩⟩
end
/-- C.m(..), m a staticmethod -/
def tSMD (C : Addr) (sp : Sp) (E : St → XK) (ta : TE) (t : TA) : TE := fun σ H Q => ta σ H fun x H1 => x = .ref C ∧ t σ H1 fun vs H2 => sp vs H2 Q (E σ)
section
variable {X : Cx} {CX : CXT} {k i : Nat} {C : Addr} {ps : List Str} {sp : Sp} {E : St → XK} {x m : Str} {p pos apos : Pos} {e o : Expr} {es : List Expr} {ta : TE} {t : TA}
theorem run_smS {g : Addr} {fd : FuncData} {pins : List (Addr × Obj)} {σ : St} {H : Hp} {s : Shared} {Q : VK} {E : XK} {us : List Value} {vs : List V} (F : FnOk X.prog X.w X.K X.mg X.base CX k g fd ps sp) (hr : Room k X.A) (hb : Binds X.K fd ps []) (hx : PassesAt CX X σ E)
    (I : Inv X pins σ H s) (r : Vals vs us) (h : sp vs H Q E) : wpAny (model X.prog X.w) X.A (call (.ref g) us) (EP X pins σ Q) X.xe s := by
  have hl : us.length = ps.length := by rw [← r.length]; exact F.len _ _ _ _ h
  have b := hb s us I.kIn (by rw [List.append_nil]; exact hl)
  rw [List.append_nil] at b
  refine wpAny_call (codeAny_mono (F.run X.A X.stack s H ⟨us, []⟩ us vs Q E hr I.env0 b r h) fun r s' hq => ?_)
  cases r with
  | error e => exact hx _ H s e s' I hq
  | ok fl =>
    cases fl with
    | ret u => exact I.after hq
    | next => exact False.elim hq
    | brk => exact False.elim hq
    | cont => exact False.elim hq
theorem pe_smD {pl : Sem Bool} (D : DefS X.prog X.w X.K X.mg X.base CX k C m ps sp) (hr : Room k X.A) (hx : ∀ σ, PassesAt CX X σ (E σ)) (he : PE X o ta) (ha : PA X (e :: es) t)
    (hst : starEach (e :: es) X.env = (false, eval e X.env) :: starEach es X.env := by rfl) (hpl : (backTo pos (starEach es X.env)).any (·.1) = false := by rfl)
    (ht : eval (.Call (.Attribute o m apos) (e :: es) [] pos) X.env = (do
      let ov ← eval o X.env
      standAt apos.atName
      let (f, first) ← holding [ov] (getMethod ov m pl)
      callWith pos f first (backTo pos (starEach (e :: es) X.env)) (backToKw pos (keywordEach [] X.env))) := by rfl) :
    PE X (.Call (.Attribute o m apos) (e :: es) [] pos) (tSMD C sp E ta t) := by
  obtain ⟨q, f, fd, hlk, r, c, hb, F⟩ := D.ex
  refine ⟨fun pins s σ H Q I h => ?_⟩
  refine PySem.W.methodCall_KW (pl := pl) (thn (he.run pins s σ H _ I h) fun u s1 ⟨x, H1, I1, rx, ex, q⟩ => ?_) ht
  subst ex
  obtain rfl : u = Value.ref C := rx
  obtain ⟨rest, hp⟩ := c.rc
  refine PySem.W.method_cls I1.kIn r.ga (PySem.W.cls_bind I1.kIn r.rd c.at_ (wpAny_call (PySem.W.sm_get (s := { s1 with toks := s1.toks + 1 }) I1.kIn hp (PySem.W.handed_on rfl ?_))))
  exact PySem.W.callWith_K (h₀ := X.base) I1.ok.mod.kin c.kp (thn (ha.run pos pins _ σ H1 _ (I1.tok _) q) fun us s3 ⟨vs, H2, I3, rv, q2⟩ => ⟨I3.kIn, run_smS F hr hb (hx σ) I3 rv q2⟩) hst hpl
end
section
variable {fr : Fr} {Γ : Gam} {Θ : List Cel} {F H : Hp} {K : Vp → List Cel → Prop}
theorem we_smD {C : Addr} {sp : Sp} {E : L2.St → XK} {ta : TE} {t : TA} (w : We fr Γ Θ ta fun p Θ1 => p = zAt C ∧ Wa fr Γ Θ1 t fun ps Θ2 => Sps fr Γ Θ2 sp E ps K) : We fr Γ Θ (tSMD C sp E ta t) K := fun σ F H ok env Q q =>
  w σ F H ok env _ fun p Θ1 ⟨e, k⟩ v F1 H1 s1 ok1 hp => by
    subst e
    have hv : v = .ref C := hp
    exact ⟨hv, k σ F1 H1 ok1 (env.mono s1) _ fun ps Θ2 k2 vs F2 H2 s2 ok2 hps => k2 σ F2 H2 _ ok2 ((env.mono s1).mono s2) hps Q (q.mono (s1.trans s2))⟩
theorem my_starts {x y : Str} (k : K (iz zB (Txt.startswith x y)) Θ) : Mts fr Θ (fun x xs H Q => ∃ a b, x = .str a ∧ xs = [.str b] ∧ Q (.bl (Txt.startswith a b)) H) (iz yS x) [iz yS y] K := fun F H v vs ok hv hps Q q => by
  obtain ⟨⟨rfl, _⟩, _⟩ := hv
  cases hps with
  | cons h1 hp => cases hp with
    | nil =>
      obtain ⟨⟨rfl, _⟩, _⟩ := h1
      exact ⟨x, y, rfl, rfl, q.go k ok rfl⟩
theorem par_mem {S : List Nat} : ∀ {l acc a b : List Nat}, par S acc l = some (a, b) → (∀ c ∈ a, c ∈ acc ∨ c ∈ l) ∧ ∀ c ∈ b, c ∈ l
  | [], acc, a, b, h => by
    by_cases e : pre S [] = true
    · have : par S acc [] = none := by unfold par; rfl
      rw [this] at h; cases h
    · have : par S acc [] = none := by unfold par; rfl
      rw [this] at h; cases h
  | c :: r, acc, a, b, h => by
    cases e : pre S (c :: r) with
    | true =>
      rw [par_hit e] at h
      cases h
      exact ⟨fun d hd => .inl hd, fun d hd => List.mem_of_mem_drop hd⟩
    | false =>
      rw [par_miss e] at h
      obtain ⟨h1, h2⟩ := par_mem h
      refine ⟨fun d hd => ?_, fun d hd => List.mem_cons_of_mem _ (h2 d hd)⟩
      rcases h1 d hd with q | q
      · rcases List.mem_append.mp q with q | q
        · exact .inl q
        · rw [List.mem_singleton.mp q]; exact .inr (List.mem_cons_self ..)
      · exact .inr (List.mem_cons_of_mem _ q)
theorem part_asc {x y : Str} (hy : (y.length == 0) = false) (ax : Asc x) (ay : Asc y) : Asc (Txt.partition x y).1 ∧ Asc (Txt.partition x y).2.1 ∧ Asc (Txt.partition x y).2.2 := by
  have ne : tl y ≠ [] := fun e => by
    rw [len0_tl y |>.mpr e] at hy
    cases hy
  have e0 : Asc Str.empty := fun c hc => by cases hc
  rw [partition_par x y ne]
  cases h : par (tl y) [] (tl x) with
  | none => exact ⟨ax, e0, e0⟩
  | some p =>
    obtain ⟨a, b⟩ := p
    obtain ⟨h1, h2⟩ := par_mem h
    refine ⟨fun c hc => ?_, ay, fun c hc => ax c (h2 c hc)⟩
    rcases h1 c hc with q | q
    · cases q
    · exact ax c q
theorem my_part {x y : Str} (hy : (y.length == 0) = false ∧ (Txt.partition x y).1.length ≤ big ∧ (Txt.partition x y).2.1.length ≤ big ∧ (Txt.partition x y).2.2.length ≤ big) (k : K (iz (z3 yS yS yS) (Txt.partition x y)) Θ) : Mts fr Θ (fun x xs H Q => ∃ a b, x = .str a ∧ xs = [.str b] ∧ (b.length == 0) = false ∧ a.length ≤ sizeLine ∧
      ∀ p, H p = none → Q (.ref p) (upd H p (.tup [.str (Txt.partition a b).1, .str (Txt.partition a b).2.1, .str (Txt.partition a b).2.2]))) (iz yS x) [iz yS y] K := fun F H v vs ok hv hps Q q => by
  obtain ⟨⟨rfl, ax⟩, lx⟩ := hv
  cases hps with
  | cons h1 hp => cases hp with
    | nil =>
      obtain ⟨⟨rfl, ay⟩, _⟩ := h1
      obtain ⟨a1, a2, a3⟩ := part_asc hy.1 ax ay
      exact ⟨x, y, rfl, rfl, hy.1, Nat.le_trans lx (by decide), fun p np => q.new k ok np ⟨p, _, _, _, rfl, upd_same, ⟨⟨rfl, a1⟩, hy.2.1⟩, ⟨⟨rfl, a2⟩, hy.2.2.1⟩, ⟨⟨rfl, a3⟩, hy.2.2.2⟩⟩⟩
theorem spl_mem {S : List Nat} : ∀ (l : List Nat) (k : Nat) (acc : List Nat), ∀ p ∈ spl S k acc l, ∀ c ∈ p, c ∈ acc ∨ c ∈ l
  | [], k, acc, p, hp, c, hc => by
    rw [spl_nil] at hp
    rw [List.mem_singleton.mp hp] at hc
    exact .inl hc
  | d :: r, k + 1, acc, p, hp, c, hc => by
    rcases spl_mem r k acc p hp c hc with q | q
    · exact .inl q
    · exact .inr (List.mem_cons_of_mem _ q)
  | d :: r, 0, acc, p, hp, c, hc => by
    cases e : pre S (d :: r) with
    | true =>
      rw [spl_hit e] at hp
      rcases List.mem_cons.mp hp with q | q
      · rw [q] at hc; exact .inl hc
      · rcases spl_mem r _ _ p q c hc with q | q
        · cases q
        · exact .inr (List.mem_cons_of_mem _ q)
    | false =>
      rw [spl_miss e] at hp
      rcases spl_mem r _ _ p hp c hc with q | q
      · rcases List.mem_append.mp q with q | q
        · exact .inl q
        · rw [List.mem_singleton.mp q]; exact .inr (List.mem_cons_self ..)
      · exact .inr (List.mem_cons_of_mem _ q)
theorem spl_asc {x y : Str} (hy : (y.length == 0) = false) (ax : Asc x) (ay : Asc y) : ∀ z ∈ Txt.split x y, Asc z := fun z hz c hc => by
  have ne : tl y ≠ [] := fun e => by
    rw [len0_tl y |>.mpr e] at hy
    cases hy
  have kd : ¬ Builtin.Str.strKind x < Builtin.Str.strKind y := kind_ok (by
    rw [← Array.all_toList, List.all_eq_true]
    exact fun d hd => by
      have := ay d hd
      exact decide_eq_true (by omega))
  have e := split_spl x y ne kd
  have hm : tl z ∈ spl (tl y) 0 [] (tl x) := by rw [← e]; exact List.mem_map.mpr ⟨z, hz, rfl⟩
  rcases spl_mem _ _ _ _ hm c hc with q | q
  · cases q
  · exact ax c q
theorem pvs_strs {F : Hp} : ∀ {xs : List Str}, (∀ z ∈ xs, Asc z ∧ z.length ≤ big) → PVs yS F (xs.map V.str) xs
  | [], _ => .nil
  | z :: xs, h => .cons ⟨⟨rfl, (h z (List.mem_cons_self ..)).1⟩, (h z (List.mem_cons_self ..)).2⟩ (pvs_strs fun y hy => h y (List.mem_cons_of_mem _ hy))
theorem my_split {x y : Str} (hy : (y.length == 0) = false ∧ x.length < big ∧ (Txt.split x y).length ≤ big ∧ ∀ z ∈ Txt.split x y, z.length ≤ big) (k : K (iz (yL yS) (Txt.split x y)) Θ) : Mts fr Θ (fun x xs H Q => ∃ a b, x = .str a ∧ xs = [.str b] ∧ (b.length == 0) = false ∧ a.length + 2 ≤ sizeLine ∧ rNewStrs (Txt.split a b) H Q) (iz yS x) [iz yS y] K := fun F H v vs ok hv hps Q q => by
  obtain ⟨⟨rfl, ax⟩, lx⟩ := hv
  cases hps with
  | cons h1 hp => cases hp with
    | nil =>
      obtain ⟨⟨rfl, ay⟩, _⟩ := h1
      refine ⟨x, y, rfl, rfl, hy.1, Nat.le_trans (Nat.add_le_add_right lx 2) (by decide), fun p np => q.new k ok np ⟨⟨p, _, rfl, upd_same, pvs_strs fun z hz => ⟨spl_asc hy.1 ax ay z hz, hy.2.2.2 z hz⟩⟩, hy.2.2.1⟩⟩
/-- the signs of a text, each a text -/
def sgn (c : Nat) : Str := ⟨#[c]⟩
def sgnL (x : Str) : List Str := x.cps.toList.map sgn
theorem sgnL_len {x : Str} : (sgnL x).length = x.length := by
  unfold sgnL
  rw [List.length_map]
  rfl
theorem sgn_one {x : Str} (h : x.length = 1) : ∃ c, x = sgn c := by
  obtain ⟨⟨l⟩⟩ := x
  have h : l.length = 1 := h
  match l, h with
  | [c], _ => exact ⟨c, rfl⟩
theorem sgn_inj {c d : Nat} (h : sgn c = sgn d) : c = d := by
  unfold sgn at h
  injection h with h
  have := congrArg Array.toList h
  simpa using this
theorem sgnL_mem {c : Nat} {z : Str} : sgn c ∈ sgnL z ↔ c ∈ z.cps.toList := by
  unfold sgnL
  rw [List.mem_map]
  constructor
  · rintro ⟨d, hd, e⟩
    rw [← sgn_inj e]; exact hd
  · exact fun h => ⟨c, h, rfl⟩
theorem wi_str {te : TE} {K : List Vp → List Cel → Prop} (w : We fr Γ Θ te fun p Θ1 => ∃ x : Str, p = iz yS x ∧ ((sgnL x).length ≤ big → K ((sgnL x).map (iz yS)) Θ1)) : Wi fr Γ Θ (iStr te) K := fun σ F H ok env R q =>
  w σ F H ok env _ fun p Θ1 ⟨x, e, k⟩ v F1 H1 s1 ok1 hp => by
    subst e
    obtain ⟨⟨rfl, ax⟩, lx⟩ := hp
    refine ⟨x, rfl, q _ Θ1 (k (by rw [sgnL_len]; exact lx)) _ F1 H1 s1 ok1 fun F2 H2 s2 fh => ⟨fun i p hi => ?_, ?_⟩⟩
    · obtain ⟨z, hz, rfl⟩ := get_izs hi
      unfold sgnL at hz
      rw [List.getElem?_map] at hz
      obtain ⟨c, hc, rfl⟩ := Option.map_eq_some_iff.mp hz
      have hlt := (List.getElem?_eq_some_iff.mp hc).1
      refine ⟨by rw [Array.length_toList] at hlt; exact hlt, fun y H3 ⟨e1, d, hd, e2⟩ => ?_⟩
      subst e1 e2
      have hcd : c = d := by
        rw [Array.getElem?_toList] at hc
        rw [hc] at hd
        exact Option.some.inj hd
      subst hcd
      refine ⟨F2, Same.refl _, Same.refl _, fh, Newer.refl _ _, ⟨⟨rfl, fun b hb => ?_⟩, by show 1 ≤ big; decide⟩⟩
      have hb : b ∈ [c] := hb
      rw [List.mem_singleton.mp hb]
      exact ax c (List.mem_of_getElem? hc)
    · show x.cps.size ≤ ((sgnL x).map (iz yS)).length
      rw [List.length_map, sgnL_len]
      exact Nat.le_refl _
theorem oy_inG {x y : Str} (h : x.length = 1) (k : K (iz zB (decide (x ∈ sgnL y))) Θ) : Ops fr Θ (fun x y H Q => ∃ (c : Nat) (z : Str), x = .str ⟨#[c]⟩ ∧ y = .str z ∧ Q (.bl (decide (c ∈ z.cps.toList))) H) (iz yS x) (iz yS y) K := fun F H v w ok hv hw Q q => by
  obtain ⟨⟨rfl, _⟩, _⟩ := hv
  obtain ⟨⟨rfl, _⟩, _⟩ := hw
  obtain ⟨c, rfl⟩ := sgn_one h
  refine ⟨c, y, rfl, rfl, ?_⟩
  have e : decide (c ∈ y.cps.toList) = decide (sgn c ∈ sgnL y) := by simp only [sgnL_mem]
  rw [e]
  exact q.go k ok rfl
theorem cutS_asc {z : Str} {lo hi : Option Int} (h : Asc z) : Asc (cutS z lo hi) := fun c hc => by
  have hc : c ∈ ((z.cps.toList.drop (HT.sIx z.length 0 lo)).take (HT.sIx z.length z.length hi - HT.sIx z.length 0 lo)) := by
    unfold cutS at hc
    simpa using hc
  exact h c (List.mem_of_mem_drop (List.mem_of_mem_take hc))
theorem sy_slS {x : Str} {lo hi : Option Int} (k : K (iz yS (cutS x lo hi)) Θ) : Sls fr Θ rSlS (iz yS x) lo hi K := fun F H v ok ⟨⟨e, ax⟩, lx⟩ Q q => by
  subst e
  exact ⟨x, rfl, Nat.le_trans lx (by decide), q.go k ok ⟨⟨rfl, cutS_asc ax⟩, Nat.le_trans (cutS_length x lo hi) lx⟩⟩
/-- int of a text -/
theorem cy_intS {x : Str} {n : Int} (hn : PySem.intText? x = some n) (hl : x.length ≤ 640) (k : K (iz zI n) Θ) : Cbs fr Θ (fun xs H Q => ∃ a n, xs = [.str a] ∧ PySem.intText? a = some n ∧ a.length ≤ 640 ∧ Q (.int n) H) [iz yS x] K := fun F H vs ok hps Q q => by
  cases hps with
  | cons h1 hp => cases hp with
    | nil =>
      obtain ⟨⟨rfl, _⟩, _⟩ := h1
      exact ⟨x, n, rfl, hn, hl, q.go k ok rfl⟩
end
theorem srcS_mk {K : PySem.W.Frag} {C p f : Addr} {m qual : Str} {st : Stmt} {ps : List Str} {oc : Value} {od an : Option Addr} {osl : Array (Option Value)} {kV doc pm cdv ct : Value} {rest : List Value}
    (r1 : PySem.W.readsIn K C (.type "type") = true) (r2 : PySem.W.specialIn K (.ref C) "__getattribute__" = some (some (.builtin "type.__getattribute__")))
    (a : PySem.W.findCls K (.ref C) (.type "type") m = some (.get (.builtin "staticmethod.__get__") (.ref p) .none (.ref C))) (b : PySem.W.recIn K p "staticmethod" = some (.ref f :: rest))
    (l : K.lookup f = some ⟨oc, od, .func (PySem.W.fnOf m qual (defArgs st) (defBody st) (defScope st) .none kV doc pm an cdv ct), osl⟩)
    (c : PySem.W.codeIn K cdv qual = true) (k : PySem.W.keepIn K (.ref f) = true)
    (hb : ∀ (kV doc pm : Value) (an : Option Addr) (cdv ct : Value) (us : List Value), us.length = ps.length → bindArgs (PySem.W.fnOf m qual (defArgs st) (defBody st) (defScope st) .none kV doc pm an cdv ct) ⟨us, []⟩ = pure (ps.zip us)) : SrcS K C m qual st ps :=
  ⟨p, f, _, PySem_Fun_a (fun_mk l c k), ⟨r1, r2⟩, ⟨a, ⟨rest, b⟩, k⟩, (fun_mk (st := st) l c k).binds hb⟩
end L2
set_option Elab.async false
set_option linter.all false
set_option maxRecDepth 100000
set_option maxHeartbeats 4000000
namespace Held
open PySem PySem.Spec PyProof.Rows L2 PySem.HErr
local macro_rules | `(tactic| ac_rfl) => `(tactic| (repeat (first | with_reducible refine kn_seq ?_ | with_reducible refine kn_asg ?_ | with_reducible refine kn_ret ?_ | with_reducible refine kn_next ?_ | with_reducible refine we_op ?_ | with_reducible refine we_un ?_ | with_reducible refine wa_nil ?_ | with_reducible refine wa_cons ?_ | with_reducible refine we_cb ?_ | with_reducible refine we_callE ?_ | with_reducible refine we_callS ?_ | with_reducible refine we_cI ?_ | with_reducible refine we_cB ?_ | with_reducible refine we_cN ?_ | (with_reducible refine is_cS ?_; refine we_cS (asc_of (by decide)) ?_) | (with_reducible refine is_var ?_; refine we_var rfl ?_) | with_reducible refine wt_test ?_ | with_reducible refine wt_b ?_ | with_reducible refine wt_not ?_ | with_reducible refine we_not ?_ | with_reducible refine we_sl ?_ | with_reducible refine wo_none ?_ | with_reducible refine wo_some ?_ | with_reducible refine wt_yes ?_ | with_reducible refine ops_I0 ?_ | with_reducible refine ops_B0 ?_ | with_reducible refine uns_I ?_ | with_reducible refine ops_eqI ?_ | with_reducible refine ops_neI ?_ | with_reducible refine ops_eqS ?_ | with_reducible refine ops_neS ?_ | with_reducible refine ops_eqB ?_ | with_reducible refine ops_neB ?_ | with_reducible refine ops_inS seq_L ?_ | with_reducible refine ops_inS seq_T ?_ | with_reducible refine ops_ninS seq_L ?_ | with_reducible refine ops_ninS seq_T ?_ | with_reducible refine ops_inI seq_L ?_ | with_reducible refine ops_inI seq_T ?_ | with_reducible refine ops_ix20 ?_ | with_reducible refine ops_ix21 ?_ | with_reducible refine ops_ix30 ?_ | with_reducible refine ops_ix31 ?_ | with_reducible refine ops_ix32 ?_ | with_reducible refine cb_len seq_L ?_ | with_reducible refine cb_len seq_T ?_ | with_reducible refine cb_list seq_L ?_ | with_reducible refine cb_list seq_T ?_ | with_reducible refine cb_tupleL ?_ | with_reducible refine cb_tupleT ?_ | with_reducible refine cb_any ?_ | with_reducible refine cb_all ?_ | with_reducible refine cb_sum ?_ | with_reducible refine cb_int ?_ | with_reducible refine cb_abs ?_ | with_reducible refine we_fld ?_ | with_reducible refine we_dget ?_ | with_reducible refine we_din ?_ | with_reducible refine we_dnin ?_ | with_reducible refine we_met ?_ | with_reducible refine wi_list ?_ | with_reducible refine wi_tup ?_ | with_reducible refine wi_range ?_ | with_reducible refine wi_range2 ?_ | with_reducible refine kn_if ?_ | with_reducible refine kn_raise ?_ | with_reducible refine ⟨_, fldP_taken (by assumption), ?_⟩ | with_reducible refine ⟨_, fldP_given (by assumption), ?_⟩ | with_reducible refine ⟨_, fldP_places (by assumption), ?_⟩ | with_reducible refine ⟨_, fldP_begin (by assumption), ?_⟩ | with_reducible refine ⟨_, fldP_steps (by assumption), ?_⟩ | with_reducible refine ⟨_, _, _, _, dic_D, rfl, ?_⟩ | refine ⟨ins_plan rfl, ?_⟩ | with_reducible refine we_mk ?_ | with_reducible refine we_cT ?_ | with_reducible refine we_cR ?_ | with_reducible refine ops_isO ?_ | with_reducible refine ops_notO ?_ | with_reducible refine ops_isX ?_ | with_reducible refine ops_notX ?_ | with_reducible refine ops_isN ?_ | with_reducible refine ops_notN ?_ | with_reducible refine ops_eqD (by decide) ?_ | with_reducible refine ops_neD (by decide) ?_ | with_reducible apply wt_and | with_reducible apply wt_or | with_reducible refine im_t (fun _ => ?_) | with_reducible refine im_f (fun _ => ?_) | with_reducible refine im_tv (fun _ => ?_) | with_reducible refine im_fv (fun _ => ?_) | with_reducible refine cb_isi ty_L kit_ll ?_ | with_reducible refine cb_isi ty_T kit_tt ?_ | with_reducible refine cb_isi ty_2 kit_tt ?_ | with_reducible refine cb_isi ty_I kit_ii ?_ | with_reducible refine cb_isi ty_I kit_ib ?_ | with_reducible refine cb_isi ty_B kit_bb ?_ | with_reducible refine cb_isi ty_S kit_ss ?_ | exact ⟨rfl, rfl⟩ | with_reducible refine ⟨_, rfl, ?_⟩ | refine ⟨_, _, _, rfl, ?_⟩ | refine ⟨_, _, _, _, rfl, ?_⟩)))
local macro_rules | `(tactic| bv_omega) => `(tactic| (first | with_reducible refine kn_seq ?_ | with_reducible refine kn_asg ?_ | with_reducible refine kn_ret ?_ | with_reducible refine kn_next ?_ | with_reducible refine we_op ?_ | with_reducible refine we_un ?_ | with_reducible refine wa_nil ?_ | with_reducible refine wa_cons ?_ | with_reducible refine we_cb ?_ | with_reducible refine we_callE ?_ | with_reducible refine we_callS ?_ | with_reducible refine we_cI ?_ | with_reducible refine we_cB ?_ | with_reducible refine we_cN ?_ | (with_reducible refine is_cS ?_; refine we_cS (asc_of (by decide)) ?_) | (with_reducible refine is_var ?_; refine we_var rfl ?_) | with_reducible refine wt_test ?_ | with_reducible refine wt_b ?_ | with_reducible refine wt_not ?_ | with_reducible refine we_not ?_ | with_reducible refine we_sl ?_ | with_reducible refine wo_none ?_ | with_reducible refine wo_some ?_ | with_reducible refine wt_yes ?_ | with_reducible refine ops_I0 ?_ | with_reducible refine ops_B0 ?_ | with_reducible refine uns_I ?_ | with_reducible refine ops_eqI ?_ | with_reducible refine ops_neI ?_ | with_reducible refine ops_eqS ?_ | with_reducible refine ops_neS ?_ | with_reducible refine ops_eqB ?_ | with_reducible refine ops_neB ?_ | with_reducible refine ops_inS seq_L ?_ | with_reducible refine ops_inS seq_T ?_ | with_reducible refine ops_ninS seq_L ?_ | with_reducible refine ops_ninS seq_T ?_ | with_reducible refine ops_inI seq_L ?_ | with_reducible refine ops_inI seq_T ?_ | with_reducible refine ops_ix20 ?_ | with_reducible refine ops_ix21 ?_ | with_reducible refine ops_ix30 ?_ | with_reducible refine ops_ix31 ?_ | with_reducible refine ops_ix32 ?_ | with_reducible refine cb_len seq_L ?_ | with_reducible refine cb_len seq_T ?_ | with_reducible refine cb_list seq_L ?_ | with_reducible refine cb_list seq_T ?_ | with_reducible refine cb_tupleL ?_ | with_reducible refine cb_tupleT ?_ | with_reducible refine cb_any ?_ | with_reducible refine cb_all ?_ | with_reducible refine cb_sum ?_ | with_reducible refine cb_int ?_ | with_reducible refine cb_abs ?_ | with_reducible refine we_fld ?_ | with_reducible refine we_dget ?_ | with_reducible refine we_din ?_ | with_reducible refine we_dnin ?_ | with_reducible refine we_met ?_ | with_reducible refine wi_list ?_ | with_reducible refine wi_tup ?_ | with_reducible refine wi_range ?_ | with_reducible refine wi_range2 ?_ | with_reducible refine kn_if ?_ | with_reducible refine kn_raise ?_ | with_reducible refine ⟨_, fldP_taken (by assumption), ?_⟩ | with_reducible refine ⟨_, fldP_given (by assumption), ?_⟩ | with_reducible refine ⟨_, fldP_places (by assumption), ?_⟩ | with_reducible refine ⟨_, fldP_begin (by assumption), ?_⟩ | with_reducible refine ⟨_, fldP_steps (by assumption), ?_⟩ | with_reducible refine ⟨_, _, _, _, dic_D, rfl, ?_⟩ | refine ⟨ins_plan rfl, ?_⟩ | with_reducible refine we_mk ?_ | with_reducible refine we_cT ?_ | with_reducible refine we_cR ?_ | with_reducible refine ops_isO ?_ | with_reducible refine ops_notO ?_ | with_reducible refine ops_isX ?_ | with_reducible refine ops_notX ?_ | with_reducible refine ops_isN ?_ | with_reducible refine ops_notN ?_ | with_reducible refine ops_eqD (by decide) ?_ | with_reducible refine ops_neD (by decide) ?_ | with_reducible apply wt_and | with_reducible apply wt_or | with_reducible refine im_t (fun _ => ?_) | with_reducible refine im_f (fun _ => ?_) | with_reducible refine im_tv (fun _ => ?_) | with_reducible refine im_fv (fun _ => ?_) | with_reducible refine cb_isi ty_L kit_ll ?_ | with_reducible refine cb_isi ty_T kit_tt ?_ | with_reducible refine cb_isi ty_2 kit_tt ?_ | with_reducible refine cb_isi ty_I kit_ii ?_ | with_reducible refine cb_isi ty_I kit_ib ?_ | with_reducible refine cb_isi ty_B kit_bb ?_ | with_reducible refine cb_isi ty_S kit_ss ?_ | exact ⟨rfl, rfl⟩ | with_reducible refine ⟨_, rfl, ?_⟩ | refine ⟨_, _, _, rfl, ?_⟩ | refine ⟨_, _, _, _, rfl, ?_⟩))
local macro_rules | `(tactic| nofun) => `(tactic| (repeat (first | with_reducible refine kn_seq ?_ | with_reducible refine kn_asg ?_ | with_reducible refine kn_ret ?_ | with_reducible refine kn_next ?_ | with_reducible refine we_op ?_ | with_reducible refine we_un ?_ | with_reducible refine wa_nil ?_ | with_reducible refine wa_cons ?_ | with_reducible refine we_cb ?_ | with_reducible refine we_callE ?_ | with_reducible refine we_callS ?_ | with_reducible refine we_cI ?_ | with_reducible refine we_cB ?_ | with_reducible refine we_cN ?_ | (with_reducible refine is_cS ?_; refine we_cS (asc_of (by decide)) ?_) | (with_reducible refine is_var ?_; first | refine we_varB rfl ?_ | refine we_varP (by assumption) rfl ?_ | refine we_var rfl ?_) | with_reducible refine wt_test ?_ | with_reducible refine wt_b ?_ | with_reducible refine wt_not ?_ | with_reducible refine we_not ?_ | with_reducible refine we_sl ?_ | with_reducible refine wo_none ?_ | with_reducible refine wo_some ?_ | with_reducible refine wt_yes ?_ | with_reducible refine ops_I0 ?_ | with_reducible refine ops_B0 ?_ | with_reducible refine uns_I ?_ | with_reducible refine ops_eqI ?_ | with_reducible refine ops_neI ?_ | with_reducible refine ops_eqS ?_ | with_reducible refine ops_neS ?_ | with_reducible refine ops_eqB ?_ | with_reducible refine ops_neB ?_ | with_reducible refine ops_inS seq_L ?_ | with_reducible refine ops_inS seq_T ?_ | with_reducible refine ops_ninS seq_L ?_ | with_reducible refine ops_ninS seq_T ?_ | with_reducible refine ops_inI seq_L ?_ | with_reducible refine ops_inI seq_T ?_ | with_reducible refine ops_ix20 ?_ | with_reducible refine ops_ix21 ?_ | with_reducible refine ops_ix30 ?_ | with_reducible refine ops_ix31 ?_ | with_reducible refine ops_ix32 ?_ | with_reducible refine cb_len seq_L ?_ | with_reducible refine cb_len seq_T ?_ | with_reducible refine cb_list seq_L ?_ | with_reducible refine cb_list seq_T ?_ | with_reducible refine cb_tupleL ?_ | with_reducible refine cb_tupleT ?_ | with_reducible refine cb_any ?_ | with_reducible refine cb_all ?_ | with_reducible refine cb_sum ?_ | with_reducible refine cb_int ?_ | with_reducible refine cb_abs ?_ | with_reducible refine we_fld ?_ | with_reducible refine we_dget ?_ | with_reducible refine we_din ?_ | with_reducible refine we_dnin ?_ | with_reducible refine we_met ?_ | with_reducible refine wi_list ?_ | with_reducible refine wi_tup ?_ | with_reducible refine wi_range ?_ | with_reducible refine wi_range2 ?_ | with_reducible refine kn_if ?_ | with_reducible refine kn_raise ?_ | with_reducible refine ⟨_, fldP_taken (by assumption), ?_⟩ | with_reducible refine ⟨_, fldP_given (by assumption), ?_⟩ | with_reducible refine ⟨_, fldP_places (by assumption), ?_⟩ | with_reducible refine ⟨_, fldP_begin (by assumption), ?_⟩ | with_reducible refine ⟨_, fldP_steps (by assumption), ?_⟩ | with_reducible refine ⟨_, _, _, _, dic_D, rfl, ?_⟩ | refine ⟨ins_plan rfl, ?_⟩ | with_reducible refine we_mk ?_ | with_reducible refine we_cT ?_ | with_reducible refine we_cR ?_ | with_reducible refine ops_isO ?_ | with_reducible refine ops_notO ?_ | with_reducible refine ops_isX ?_ | with_reducible refine ops_notX ?_ | with_reducible refine ops_isN ?_ | with_reducible refine ops_notN ?_ | with_reducible refine ops_eqD (by decide) ?_ | with_reducible refine ops_neD (by decide) ?_ | with_reducible apply wt_and | with_reducible apply wt_or | with_reducible refine im_t (fun _ => ?_) | with_reducible refine im_f (fun _ => ?_) | with_reducible refine im_tv (fun _ => ?_) | with_reducible refine im_fv (fun _ => ?_) | with_reducible refine cb_isi ty_L kit_ll ?_ | with_reducible refine cb_isi ty_T kit_tt ?_ | with_reducible refine cb_isi ty_2 kit_tt ?_ | with_reducible refine cb_isi ty_I kit_ii ?_ | with_reducible refine cb_isi ty_I kit_ib ?_ | with_reducible refine cb_isi ty_B kit_bb ?_ | with_reducible refine cb_isi ty_S kit_ss ?_ | exact ⟨rfl, rfl⟩ | with_reducible refine ⟨_, rfl, ?_⟩ | refine ⟨_, _, _, rfl, ?_⟩ | refine ⟨_, _, _, _, rfl, ?_⟩)))
local macro_rules | `(tactic| and_intros) => `(tactic| (repeat (first | exact .nil | refine .cons (.inr rfl) ?_ | refine .cons (.inl rfl) ?_)))
local macro_rules | `(tactic| subst_vars) => `(tactic| (try dsimp only [List.set, List.eraseIdx, L2.envOf, List.map, Option.map]))
def topS (i : Nat) : Stmt := PySem.Challenge.pw_heldsteps_k08_whole_ratio_texts.main.body.getD i (.Pass ⟨0, 0, 0, 0⟩)
section
variable {P : Program} {w : World} {K : PySem.W.Frag} {mg : Str → Option Value} {base : Heap}
def m_draw (m : Int) : DM Int := fun Q _ => drawD m Q
theorem fmod_box {x m : Int} (h : 0 < m) : 0 ≤ x.fmod m ∧ x.fmod m < m := ⟨Int.fmod_nonneg_of_pos _ h, Int.fmod_lt_of_pos _ h⟩
theorem big200 {m : Int} (h0 : 0 < m) (h : m ≤ 10 ^ 40) : m.natAbs < 2 ^ 200 := by
  have e : (10 : Int) ^ 40 < 2 ^ 200 := by decide
  have e2 : ((2 ^ 200 : Nat) : Int) = 2 ^ 200 := by decide
  omega
abbrev s__law_bag : Stmt := topS 13
theorem sc__law_bag : FnScope ["_law_script", "_law_cell"] ["_law_script"] (defScope s__law_bag) := ⟨rfl, rfl, rfl, by decide +kernel, rfl, by decide +kernel, by decide +kernel⟩
theorem ok__law_bag {k : Nat} (B : Bl mg) (F : Src K mg "_law_bag" s__law_bag ["_law_script"]) : Def P w K mg base CX0 (k + 1) "_law_bag" ["_law_script"] (spN (preBag K 4)) := by
  refine F.okN sc__law_bag (fun qs out err ⟨_, h, _⟩ => by rw [h]; rfl) (fun f cdv A outer s H E qs out err hr ⟨ns, e1, e2, e3⟩ => ?_)
  subst e1 e2 e3
  refine ⟨_, (pss_one (ps_ret (pe_lst (pa_cons (pe_lc (own := [("_law_cell", 1)]) (g := gName 1) (by rfl) sc__law_bag.nd (kpi_list (K := K) (pv 0)) (blkOk_by (N := ["_law_script", "_law_cell"]) (sc := defScope s__law_bag) (by decide +kernel)) (fun _ _ _ _ _ => (pg_name (i := 1) sc__law_bag.nd rfl (Or.inl rfl))) (fun _ _ _ _ _ => pts_nil) (fun _ _ _ _ _ => (pe_callTy call_int1 (by rfl) B.int' (by decide +kernel) (pa_cons (pv 1) pa_nil)))) (pa_cons pe_int (pa_cons pe_int (pa_cons pe_int (pa_cons pe_int pa_nil)))))))), fun fr Q hret => ?_⟩
  refine kn_ret (we_bag (m := 4) (wa_cons (we_lcM0 (r := zI) (s := zI) (wi_scr (we_var rfl ⟨ns, rfl, fun e => ⟨_, fun x => x, _, rfl, rfl, e, fun x => tg_name, fun x c => we_cb (wa_cons (we_var rfl (wa_nil (cb_int ⟨rfl, rfl⟩)))), ?_⟩⟩)))))
  refine wa_cons (we_cI (wa_cons (we_cI (wa_cons (we_cI (wa_cons (we_cI (wa_nil ⟨_, [0, 0, 0, 7], rfl, rfl, by decide, fun i h => ?_, fun b l => ?_⟩))))))))
  · cases h
    decide
  · exact hret _ _ ⟨b, l, rfl, rfl⟩ (fun c hc => by rw [List.mem_singleton.mp hc]; rfl) _ [] (by simp)
abbrev s__law_draw : Stmt := topS 14
theorem sc__law_draw : FnScope ["_law_bag_here", "_law_many", "_law_cell", "_law_digit"] ["_law_bag_here", "_law_many"] (defScope s__law_draw) := ⟨rfl, rfl, rfl, by decide +kernel, rfl, by decide +kernel, by decide +kernel⟩
theorem ok__law_draw {k : Nat} (B : Bl mg) (F : Src K mg "_law_draw" s__law_draw ["_law_bag_here", "_law_many"]) : Def P w K mg base CX0 (k + 1) "_law_draw" ["_law_bag_here", "_law_many"] (spC (preK (cBag 4) (preBW (fun x : Int => [iz zI x]) zI m_draw))) := by
  refine F.okKW (fun _ _ => rfl) sc__law_draw (fun _ => rfl) (fun f cdv A outer s H E b l m Q hr h => ⟨_, (pss_cons (ps_asg (pe_op op_add (pe_ix (kix_list (K := K)) (pv 0) pe_int (fun _ _ => rfl)) pe_int) (pg_sub (pv 0) pe_int set_list))
 (C8.pss_cut (ps_if (PW.pt (pw_and (pt_cmpR op_eq (pe_ix (kix_list (K := K)) (pv 0) pe_int (fun _ _ => rfl)) pe_int (nomark _)) (pw_and1 (pt_cmpR op_lt (pe_ix (kix_list (K := K)) (pv 0) pe_int (fun _ _ => rfl)) (pe_callB (kcall_len (K := K)) (by rfl) B.len PySem.boot_len (pa_cons (pe_ix (kix_list (K := K)) (pv 0) pe_int (fun _ _ => rfl)) pa_nil)) (nomark _))))) (pss_cons (ps_asg (pe_ix (kix_list (K := K)) (pe_ix (kix_list (K := K)) (pv 0) pe_int (fun _ _ => rfl)) (pe_ix (kix_list (K := K)) (pv 0) pe_int (fun _ _ => rfl)) (fun _ _ => rfl)) (pg_name (i := 2) sc__law_draw.nd rfl (Or.inl rfl)))
 (pss_cons (ps_asg (pe_op op_add (pe_ix (kix_list (K := K)) (pv 0) pe_int (fun _ _ => rfl)) pe_int) (pg_sub (pv 0) pe_int set_list))
 (pss_one (ps_if (pt_cmpR op_ge (pv 2) (pe_op op_pow pe_int pe_int) (nomark _)) (pss_one (ps_asg (pv 2) (pg_sub (pv 0) pe_int set_list))) (pss_one (ps_asg (pe_op op_modN (pe_callTy call_int1 (by rfl) B.int' (by decide +kernel) (pa_cons (pe_op op_add (pe_op op_mul (pe_ix (kix_list (K := K)) (pv 0) pe_int (fun _ _ => rfl)) pe_int) (pv 2)) pa_nil)) pe_int) (pg_sub (pv 0) pe_int set_list))))))) pss_nil)
 (pss_cons (ps_if (pt_cmpR op_gt (pe_ix (kix_list (K := K)) (pv 0) pe_int (fun _ _ => rfl)) pe_int (nomark _)) (pss_cons (ps_asg (pe_op op_modN (pe_callTy call_int1 (by rfl) B.int' (by decide +kernel) (pa_cons (pe_ix (kix_list (K := K)) (pv 0) pe_int (fun _ _ => rfl)) pa_nil)) (pv 1)) (pg_name (i := 3) sc__law_draw.nd rfl (Or.inl rfl)))
 (pss_cons (ps_asg (pe_op op_fdivW (pe_ix (kix_list (K := K)) (pv 0) pe_int (fun _ _ => rfl)) (pv 1)) (pg_sub (pv 0) pe_int set_list))
 (pss_one (ps_ret (pv 3))))) pss_nil)
 (pss_cons (ps_asg (pe_op op_modN (pe_callTy call_int1 (by rfl) B.int' (by decide +kernel) (pa_cons (pe_op op_add (pe_op op_add (pe_op op_mul (pe_ix (kix_list (K := K)) (pv 0) pe_int (fun _ _ => rfl)) pe_int) (pe_op op_mul (pe_ix (kix_list (K := K)) (pv 0) pe_int (fun _ _ => rfl)) pe_int)) pe_int) pa_nil)) pe_int) (pg_sub (pv 0) pe_int set_list))
 (pss_one (ps_ret (pe_op op_modN (pe_callTy call_int1 (by rfl) B.int' (by decide +kernel) (pa_cons (pe_op op_fdivN (pe_op op_modN (pe_callTy call_int1 (by rfl) B.int' (by decide +kernel) (pa_cons (pe_op op_add (pe_op op_mul (pe_ix (kix_list (K := K)) (pv 0) pe_int (fun _ _ => rfl)) pe_int) (pe_op op_mul (pe_ix (kix_list (K := K)) (pv 0) pe_int (fun _ _ => rfl)) pe_int)) pa_nil)) pe_int) pe_int) pa_nil)) (pv 1)))))))), fun fr Qv hret => ?_⟩)
  obtain ⟨m0, m1, h⟩ := h
  refine kn_bag (j := 0) rfl fun ns is hl hi => ?_
  obtain ⟨i, c, n, r, rfl⟩ : ∃ i c n r, is = [i, c, n, r] := by
    match is, hl with
    | [i, c, n, r], _ => exact ⟨i, c, n, r, rfl⟩
  have hi := hi i rfl
  refine kn_seq (kb_set (i := 0) (m := 2) (j := 0) rfl (we_op (we_op (we_var rfl (we_cI (ob_ix (j := 0) (m := 2) rfl rfl rfl (we_cI (ops_I0 (we_cI ⟨_, _, rfl, rfl, rfl, by simp, rfl, ?_⟩)))))))))
  try dsimp only
  refine kn_cut (fun Γ Θ => ∃ i c r : Int, 0 ≤ i ∧ Γ = [some (zAt b), some (iz zI m), none, none] ∧ Θ = [cBg b l ns [i, c, n + 1, r]]) ?_ ?_
  · refine kn_if (wt_and (b := decide (c = 0)) (c := decide (i < (ns.length : Int))) ?_ (fun _ => ?_) ⟨fun hc => ?_, fun hc => ?_⟩)
    · exact wt_test (we_op (we_op (we_var rfl (we_cI (ob_ix (j := 0) (m := 1) rfl rfl rfl (we_cI (ops_eqI ⟨_, rfl, ⟨rfl, rfl⟩⟩)))))))
    · refine wt_test (we_op (we_op (we_var rfl (we_cI (ob_ix (j := 0) (m := 0) rfl rfl rfl ?_)))))
      refine we_cb (wa_cons (we_op (we_var rfl (we_cI (ob_ix0 (j := 0) rfl (wa_nil ?_))))))
      exact cy_len sy_L fun e => ops_B0 ⟨_, rfl, ⟨rfl, rfl⟩⟩
    · rw [Bool.and_eq_true, decide_eq_true_iff, decide_eq_true_iff] at hc
      obtain ⟨j, rfl⟩ : ∃ j : Nat, i = j := ⟨i.toNat, by omega⟩
      have hj : j < ns.length := by omega
      refine kn_seq (kn_asg (we_op (we_op (we_var rfl (we_cI (ob_ix0 (j := 0) rfl (we_op (we_var rfl (we_cI (ob_ix (j := 0) (m := 0) rfl rfl rfl (oy_ixL (atI_nat (List.getElem?_eq_getElem hj)) ?_)))))))))))
      try dsimp only
      refine kn_seq (kb_set (i := 0) (m := 0) (j := 0) rfl (we_op (we_op (we_var rfl (we_cI (ob_ix (j := 0) (m := 0) rfl rfl rfl (we_cI (ops_I0 (we_cI ⟨_, _, rfl, rfl, rfl, by simp, rfl, ?_⟩)))))))))
      try dsimp only
      refine kn_if (wt_test (we_op (we_var rfl (we_op (we_cI (we_cI (ops_IC ⟨by decide, by decide, by decide⟩ (ops_B0 ⟨_, rfl, ⟨fun _ => ?_, fun _ => ?_⟩⟩))))))))
      · refine kb_set (i := 0) (m := 1) (j := 0) rfl (we_var rfl (we_cI ⟨_, _, rfl, rfl, rfl, by simp, rfl, ?_⟩))
        exact kn_mid ⟨_, by and_intros, _, _, _, by omega, rfl, rfl⟩
      · refine kb_set (i := 0) (m := 3) (j := 0) rfl (we_op (we_cb (wa_cons (we_op (we_op (we_op (we_var rfl (we_cI (ob_ix (j := 0) (m := 3) rfl rfl rfl (we_cI (ops_IC (.inr ⟨by decide, by decide⟩) (we_var rfl (ops_I0 (wa_nil (cb_int (we_cI (ops_IC (C := fun _ j => j ≠ 0) (by decide) (we_cI ⟨_, _, rfl, rfl, rfl, by simp, rfl, ?_⟩))))))))))))))))))
        exact kn_mid ⟨_, by and_intros, _, _, _, by omega, rfl, rfl⟩
    · refine kn_next ?_
      exact kn_mid ⟨_, by and_intros, i, c, r, hi, rfl, rfl⟩
  · rintro Γ Θ ⟨i, c, r, hi, rfl, rfl⟩
    have fin : ∀ {fr' : L2.Fr} {is : List Int} {v : Int}, FrLe fr fr' → is.length = 4 → (∀ i, is[0]? = some i → 0 ≤ i) → 0 ≤ v → v < m → Rt fr' [cBg b l ns is] Qv (iz zI v) := fun {fr' is v} le h1 h2 h3 h4 => rt_bag (j := 0) rfl h1 h2 ((hret.fine le) _ (h v h3 h4) _ (.head _))
    have le0 : FrLe fr fr := ⟨rfl, rfl, Same.refl _, fun a o h => .inl ⟨o, h⟩⟩
    refine kn_seq (kn_if (wt_test (we_op (we_op (we_var rfl (we_cI (ob_ix (j := 0) (m := 1) rfl rfl rfl (we_cI (ops_B0 ⟨_, rfl, ⟨fun hc => ?_, fun hc => ?_⟩⟩)))))))))
    · have hc : c > 0 := of_decide_eq_true hc
      refine kn_seq (kn_asg (we_op (we_cb (wa_cons (we_op (we_var rfl (we_cI (ob_ix (j := 0) (m := 1) rfl rfl rfl (wa_nil (cb_int (we_var rfl (ops_IC (C := fun _ j => j ≠ 0) (by omega) ?_))))))))))))
      try dsimp only
      refine kn_seq (kb_set (i := 0) (m := 1) (j := 0) rfl (we_op (we_op (we_var rfl (we_cI (ob_ix (j := 0) (m := 1) rfl rfl rfl (we_var rfl (ops_IC (wide_div (b := 200) m0 (big200 m0 m1) (by decide) (by decide)) (we_cI ⟨_, _, rfl, rfl, rfl, by simp, rfl, ?_⟩)))))))))
      try dsimp only
      refine kn_ret (we_var rfl ?_)
      have fb := fmod_box (x := c) m0
      exact fin le0 rfl (fun j hj => by cases hj; exact hi) fb.1 fb.2
    · refine kn_next ?_
      try dsimp only
      refine kn_seq (kb_set (i := 0) (m := 3) (j := 0) rfl (we_op (we_cb (wa_cons (we_op (we_op (we_op (we_op (we_var rfl (we_cI (ob_ix (j := 0) (m := 3) rfl rfl rfl (we_cI (ops_IC (.inr ⟨by decide, by decide⟩) (we_op (we_op (we_var rfl (we_cI (ob_ix (j := 0) (m := 2) rfl rfl rfl (we_cI (ops_IC (.inr ⟨by decide, by decide⟩) (ops_I0 (we_cI (ops_I0 (wa_nil (cb_int (we_cI (ops_IC (C := fun _ j => j ≠ 0) (by decide) (we_cI ⟨_, _, rfl, rfl, rfl, by simp, rfl, ?_⟩))))))))))))))))))))))))))))
      try dsimp only
      refine kn_ret (we_op (we_cb (wa_cons (we_op (we_op (we_cb (wa_cons (we_op (we_op (we_op (we_var rfl (we_cI (ob_ix (j := 0) (m := 3) rfl rfl rfl (we_cI (ops_IC (.inr ⟨by decide, by decide⟩) (we_op (we_op (we_var rfl (we_cI (ob_ix (j := 0) (m := 2) rfl rfl rfl (we_cI (ops_IC (.inr ⟨by decide, by decide⟩) (ops_I0 (wa_nil (cb_int (we_cI (ops_IC (C := fun _ j => j ≠ 0) (by decide) (we_cI (ops_IC ⟨by decide, by decide⟩ (wa_nil (cb_int (we_var rfl (ops_IC (C := fun _ j => j ≠ 0) (by omega) ?_)))))))))))))))))))))))))))))))))
      have fb := fmod_box (x := Int.fdiv (Int.fmod (Int.fmod (r * 48271 + (n + 1) * 69621 + 11) 2147483647 * 16807 + (n + 1) * 40692) 2147483629) 5) m0
      exact fin le0 rfl (fun j hj => by cases hj; exact hi) fb.1 fb.2
end
abbrev zRatio (C_Ratio : Addr) : Rep (Int × Int) := zIn C_Ratio fun x => [("top", iz zI x.1), ("bottom", iz zI x.2)]
section
variable {P : Program} {w : World} {K : PySem.W.Frag} {mg : Str → Option Value} {base : Heap}
abbrev s_common_divisor : Stmt := topS 8
theorem sc_common_divisor : FnScope ["first", "second", "large", "small"] ["first", "second"] (defScope s_common_divisor) := ⟨rfl, rfl, rfl, by decide +kernel, rfl, by decide +kernel, by decide +kernel⟩
def m_common_divisor (p_first : Int) (p_second : Int) : DM Int := fun Q X =>
  whileD ((if p_first < 0 then -p_first else p_first), (if p_second < 0 then -p_second else p_second)) (fun s1 nx bk =>
  ifD (!decide (s1.2 = (0 : Int))) (
  s1.2 ≠ 0 ∧
  nx (s1.2, (Int.fmod s1.1 s1.2))) (bk s1)) (fun s1 =>
  Q s1.1)
theorem ok_common_divisor {k : Nat} {cs : EK → Addr} (B : Bl mg) 
    (F : Src K mg "common_divisor" s_common_divisor ["first", "second"]) : Def P w K mg base CX0 (k + 1) "common_divisor" ["first", "second"] (spA (preW (erW cs) (fun x : Int × Int => [iz zI x.1, iz zI x.2]) zI (fun x => m_common_divisor x.1 x.2))) := by
  refine F.okW sc_common_divisor (fun _ => rfl) (fun f cdv A outer s H E x Q X hr h => ⟨_, (pss_cons (ps_par (i := 2) (j := 3) (by rfl) sc_common_divisor.nd rfl rfl (by decide) rfl rfl (pa_cons (pe_callB call_abs (by rfl) B.abs (by decide +kernel) (pa_cons (pv 0) pa_nil)) (pa_cons (pe_callB call_abs (by rfl) B.abs (by decide +kernel) (pa_cons (pv 1) pa_nil)) pa_nil)) (by rfl))
 (pss_cons (ps_while PassesOwn.never (pt_cmpR op_ne (pv 3) pe_int (nomark _)) (pss_one (ps_par (i := 2) (j := 3) (by rfl) sc_common_divisor.nd rfl rfl (by decide) rfl rfl (pa_cons (pv 3) (pa_cons (pe_op op_modN (pv 2) (pv 3)) pa_nil)) (by rfl))))
 (pss_one (ps_ret (pv 2))))), fun fr Qv hret => ?_⟩)
  obtain ⟨p_first, p_second⟩ := x
  replace h : m_common_divisor p_first p_second Q X := h
  unfold m_common_divisor at h
  refine kn_seq (kn_par (i := 2) (j := 3) (wa_cons (we_cb (wa_cons (we_var rfl (wa_nil (cb_abs (wa_cons (we_cb (wa_cons (we_var rfl (wa_nil (cb_abs (wa_nil (⟨_, _, rfl, ?_⟩)))))))))))))))
  try dsimp only
  refine kn_seq (kn_whileW (S := Int × Int) (fun s1 => [some (iz zI p_first), some (iz zI p_second), some (iz zI s1.1), some (iz zI s1.2)]) (fun s1 => []) ((if p_first < 0 then -p_first else p_first), (if p_second < 0 then -p_second else p_second)) h (by and_intros) rfl (fun s1 nx M hnx hbk h => ?_) (fun s1 h => ?_))
  · refine wt_test (we_op (we_var rfl (we_cI (ops_neI (⟨_, rfl, ⟨fun hc => ?_, fun hc => hbk _ _ _ (h.2 hc) (by and_intros) rfl⟩⟩)))))
    have h := h.1 hc
    refine kn_par (i := 2) (j := 3) (wa_cons (we_var rfl (wa_cons (we_op (we_var rfl (we_var rfl ?_))))))
    obtain ⟨g2, h⟩ := h
    refine ops_IC (C := fun _ j => j ≠ 0) g2 (wa_nil (⟨_, _, rfl, ?_⟩))
    exact hnx (s1.2, (Int.fmod s1.1 s1.2)) _ _ h (by and_intros) rfl
  try dsimp only
  refine kn_ret (we_var rfl ?_)
  exact hret _ h _
abbrev s_Ratio___init__ : Stmt := inClass (topS 11) 0
theorem sc_Ratio___init__ : FnScope ["self", "top", "bottom", "divisor"] ["self", "top", "bottom"] (defScope s_Ratio___init__) := ⟨rfl, rfl, rfl, by decide +kernel, rfl, by decide +kernel, by decide +kernel⟩
def m_Ratio___init__ (p_top : Int) (p_bottom : Int) : DM (Int × Int) := fun Q X =>
  ifD (decide (p_bottom = (0 : Int))) (
  X (.badNumber (0 : Int))) (
  m_common_divisor p_top p_bottom (fun v1 =>
  joinD (fun j3 =>
  ifD (decide (p_bottom < (0 : Int))) (
  ∀ divisor4, divisor4 = (-v1) →
  j3 divisor4) (
  j3 v1)) (fun s2 : Int =>
  CDivZ p_top s2 ∧
  CDivZ p_bottom s2 ∧
  Q ((Int.fdiv p_top s2), (Int.fdiv p_bottom s2)))) noX)
theorem ok_Ratio___init__ {k : Nat} {cs : EK → Addr} {f_BadNumber C_Ratio : Addr} (B : Bl mg) (T_Ratio : ClsA K mg C_Ratio "Ratio" ["top", "bottom"]) (D_common_divisor : Def P w K mg base CX0 k "common_divisor" ["first", "second"] (spA (preW (erW cs) (fun x : Int × Int => [iz zI x.1, iz zI x.2]) zI (fun x => m_common_divisor x.1 x.2)))) (X_BadNumber : ErrTxt P K mg false "BadNumber" (cs .badNumber) f_BadNumber ["number"])
    (F : SrcI K C_Ratio "Ratio.__init__" s_Ratio___init__ ["self", "top", "bottom"]) : DefI P w K mg base (L2.CX P w) (k + 1) C_Ratio ["self", "top", "bottom"] (spI C_Ratio (preW (erW cs) (fun x : Int × Int => [iz zI x.1, iz zI x.2]) (zRatio C_Ratio) (fun x => m_Ratio___init__ x.1 x.2))) := by
  refine F.okW sc_Ratio___init__ (fun _ => rfl) (fun f cdv A outer s H E x Q X hr h => ⟨_, (pss_cons (ps_if (pt_cmpR op_eq (pv 2) pe_int (nomark _)) (pss_one (ps_raiseE rfl X_BadNumber hr (takes_of rfl rfl rfl rfl) (pa_cons pe_int pa_nil))) pss_nil)
 (pss_cons (ps_asg (pe_def D_common_divisor hr pass0 (pa_cons (pv 1) (pa_cons (pv 2) pa_nil))) (pg_name (i := 3) sc_Ratio___init__.nd rfl (Or.inl rfl)))
 (C8.pss_cut (ps_if (pt_cmpR op_lt (pv 2) pe_int (nomark _)) (pss_one (ps_asg (pe_un un_neg (pv 3)) (pg_name (i := 3) sc_Ratio___init__.nd rfl (Or.inl rfl)))) pss_nil)
 (pss_cons (kps_fld (K := K) (pv 0) (pe_op op_fdivZ (pv 1) (pv 3)))
 (pss_one (kps_fld (K := K) (pv 0) (pe_op op_fdivZ (pv 2) (pv 3)))))))), fun fr x0 dx0 Qn rt hinit hrse => ?_⟩)
  obtain ⟨p_top, p_bottom⟩ := x
  replace h : m_Ratio___init__ p_top p_bottom Q X := h
  unfold m_Ratio___init__ at h
  refine kn_seq (kn_if (wt_test (we_op (we_var rfl (we_cI (ops_eqI (⟨_, rfl, ⟨fun hc => ?_, fun hc => ?_⟩⟩)))))))
  · have h := h.1 hc
    refine kn_raiseY (wa_cons (we_cI (wa_nil ?_)))
    exact ⟨rfl, (fun h => nomatch h), hrse _ h _ _⟩
  · have h := h.2 hc
    refine kn_next ?_
    try dsimp only
    refine kn_seq (kn_asg (i := 3) (we_callE (wa_cons (we_var rfl (wa_cons (we_var rfl (wa_nil ?_)))))))
    refine sps_W0 (p_top, p_bottom) h (fun v1 h => ?_)
    try dsimp only
    refine kn_cutW (S := Int) (fun s2 => [some (zAt x0), some (iz zI p_top), some (iz zI p_bottom), some (iz zI s2)]) (fun s2 => [cI x0 C_Ratio dx0 []]) h (fun M hjn h => ?_) (fun s2 h => ?_)
    · refine kn_if (wt_test (we_op (we_var rfl (we_cI (ops_B0 (⟨_, rfl, ⟨fun hc => ?_, fun hc => ?_⟩⟩))))))
      · have h := h.1 hc
        refine kn_asgL (i := 3) (r := zI) (we_un (we_var rfl (uns_I (⟨_, rfl, fun divisor4 edivisor4 => ?_⟩))))
        have h := h divisor4 edivisor4
        exact hjn divisor4 _ _ h (by and_intros) rfl
      · have h := h.2 hc
        refine kn_next ?_
        exact hjn v1 _ _ h (by and_intros) rfl
    try dsimp only
    refine kn_seq (kn_putF T_Ratio.toClsF (by decide) (we_op (we_var rfl (we_var rfl ?_))))
    obtain ⟨g5, h⟩ := h
    refine ops_IC g5 (we_var rfl (⟨_, _, _, 0, rfl, rfl, Nat.le_of_ble_eq_true rfl, ?_⟩))
    try dsimp only
    refine kn_putF T_Ratio.toClsF (by decide) (we_op (we_var rfl (we_var rfl ?_)))
    obtain ⟨g6, h⟩ := h
    refine ops_IC g6 (we_var rfl (⟨_, _, _, 0, rfl, rfl, Nat.le_of_ble_eq_true rfl, ?_⟩))
    exact hinit _ h _ _ 0 _ rfl
abbrev s_Ratio___str__ : Stmt := inClass (topS 11) 19
theorem sc_Ratio___str__ : FnScope ["self"] ["self"] (defScope s_Ratio___str__) := ⟨rfl, rfl, rfl, by decide +kernel, rfl, by decide +kernel, by decide +kernel⟩
def m_Ratio___str__ (p_self : (Int × Int)) : DM Str := fun Q X =>
  ifD (decide (p_self.2 = (1 : Int))) (
  CStr p_self.1 ∧
  Q (numS p_self.1)) (
  CStr p_self.1 ∧
  (Str.empty).length + ((numS p_self.1)).length ≤ big ∧
  ((Str.empty ++ (numS p_self.1))).length + (("/" : Str)).length ≤ big ∧
  CStr p_self.2 ∧
  (((Str.empty ++ (numS p_self.1)) ++ ("/" : Str))).length + ((numS p_self.2)).length ≤ big ∧
  ((((Str.empty ++ (numS p_self.1)) ++ ("/" : Str)) ++ (numS p_self.2))).length ≤ big ∧
  Q (((Str.empty ++ (numS p_self.1)) ++ ("/" : Str)) ++ (numS p_self.2)))
theorem ok_Ratio___str__ {k : Nat} {cs : EK → Addr} {C_Ratio : Addr} (B : Bl mg) (T_Ratio : ClsA K mg C_Ratio "Ratio" ["top", "bottom"])
    (F : SrcM K C_Ratio "__str__" "Ratio.__str__" s_Ratio___str__ ["self"]) : DefM P w K mg base CX0 (k + 1) C_Ratio "__str__" ["self"] (spA (preW (erW cs) (fun x : (Int × Int) => [iz (zRatio C_Ratio) x]) yS (fun x => m_Ratio___str__ x))) := by
  refine F.okW sc_Ratio___str__ (fun _ => rfl) (fun f cdv A outer s H E p_self Q X hr h => ⟨_, (pss_cons (ps_if (pt_cmpR op_eq (kpe_fld (K := K) (pv 0)) pe_int (nomark _)) (pss_one (ps_ret (pe_callTy call_str_int (by rfl) B.str' (by decide +kernel) (pa_cons (kpe_fld (K := K) (pv 0)) pa_nil)))) pss_nil)
 (pss_one (ps_ret (pe_joined (.cons (pe_fmt (kpe_fld (K := K) (pv 0))) (.cons pe_str (.cons (pe_fmt (kpe_fld (K := K) (pv 0))) .nil))))))), fun fr Qv hret => ?_⟩)
  replace h : m_Ratio___str__ p_self Q X := h
  unfold m_Ratio___str__ at h
  refine kn_seq (kn_if (wt_test (we_op (we_fld (we_var rfl (⟨_, fld_in T_Ratio.toClsF (by decide) rfl, we_cI (ops_eqI (⟨_, rfl, ⟨fun hc => ?_, fun hc => ?_⟩⟩))⟩))))))
  · have h := h.1 hc
    refine kn_ret (we_cb (wa_cons (we_fld (we_var rfl (⟨_, fld_in T_Ratio.toClsF (by decide) rfl, wa_nil ?_⟩)))))
    obtain ⟨g1, h⟩ := h
    refine cy_str g1 ?_
    exact hret _ h _
  · have h := h.2 hc
    refine kn_next ?_
    try dsimp only
    refine kn_ret (we_fs (wj_cons (we_fmtI (we_fld (we_var rfl (⟨_, fld_in T_Ratio.toClsF (by decide) rfl, ?_⟩))))))
    obtain ⟨g2, h⟩ := h
    refine ⟨_, rfl, g2, ?_⟩
    obtain ⟨g3, h⟩ := h
    refine ⟨_, rfl, g3, wj_cons (we_cSy (z := "/") (asc_of (by decide)) (by decide) ?_)⟩
    obtain ⟨g4, h⟩ := h
    refine ⟨_, rfl, g4, wj_cons (we_fmtI (we_fld (we_var rfl (⟨_, fld_in T_Ratio.toClsF (by decide) rfl, ?_⟩))))⟩
    obtain ⟨g5, h⟩ := h
    refine ⟨_, rfl, g5, ?_⟩
    obtain ⟨g6, h⟩ := h
    refine ⟨_, rfl, g6, ?_⟩
    obtain ⟨g7, h⟩ := h
    refine wj_nil (⟨g7, ?_⟩)
    exact hret _ h _
end
section
variable {P : Program} {w : World} {K : PySem.W.Frag} {mg : Str → Option Value} {base : Heap}
abbrev s_is_figures : Stmt := topS 10
theorem sc_is_figures : FnScope ["text", "sign"] ["text"] (defScope s_is_figures) := ⟨rfl, rfl, rfl, by decide +kernel, rfl, by decide +kernel, by decide +kernel⟩
def m_is_figures (p_text : Str) : DM Bool := fun Q X =>
  ifD (!(decide ((1 : Int) ≤ ((p_text).length : Int)) && decide (((p_text).length : Int) ≤ (60 : Int)))) (
  Q false) (
  ∃ v3, atI (p_text).cps.toList (0 : Int) = some v3 ∧
  ifD ((decide ((⟨#[v3]⟩ : Str) = ("0" : Str))) && (decide (((p_text).length : Int) > (1 : Int)))) (
  Q false) (
  mapD (sgnL p_text) [] (fun x4 k5 =>
  x4.length = 1 ∧
  k5 (decide (x4 ∈ sgnL ("0123456789" : Str)))) (fun ys6 =>
  Q ((ys6).all id))))
theorem ok_is_figures {k : Nat} {cs : EK → Addr} (B : Bl mg) (g_LONGEST : Glo mg "LONGEST" (.int (60 : Int))) (g_DIGITS : Glo mg "DIGITS" (.str ("0123456789" : Str)))
    (F : Src K mg "is_figures" s_is_figures ["text"]) : Def P w K mg base CX0 (k + 1) "is_figures" ["text"] (spA (preW (erW cs) (fun x : Str => [iz yS x]) zB (fun x => m_is_figures x))) := by
  refine F.okW sc_is_figures (fun _ => rfl) (fun f cdv A outer s H E p_text Q X hr h => ⟨_, (pss_cons (ps_if (pt_not (pt_chain op_le op_le pe_int (pe_callB call_len_str (by rfl) B.len PySem.boot_len (pa_cons (pv 0) pa_nil)) (pe_glo g_LONGEST))) (pss_one (ps_ret pe_bl)) pss_nil)
 (pss_cons (ps_if (PW.pt (pw_and (pt_cmpR op_eq (pe_ix ix_str (pv 0) pe_int (fun _ _ => rfl)) pe_str (nomark _)) (pw_and1 (pt_cmpR op_gt (pe_callB call_len_str (by rfl) B.len PySem.boot_len (pa_cons (pv 0) pa_nil)) pe_int (nomark _))))) (pss_one (ps_ret pe_bl)) pss_nil)
 (pss_one (ps_ret (pe_callB (kcr_all (K := K) rfl) (by rfl) B.all' (by decide +kernel) (pa_cons (pe_lc (own := [("sign", 1)]) (g := gName 1) (by rfl) sc_is_figures.nd (pi_str (pv 0)) (blkOk_by (N := ["text", "sign"]) (sc := defScope s_is_figures) (by decide +kernel)) (fun _ _ _ _ _ => (pg_name (i := 1) sc_is_figures.nd rfl (Or.inl rfl))) (fun _ _ _ _ _ => pts_nil) (fun _ _ _ _ _ => (pe_cmpR op_in_sign (pv 1) (pe_glo g_DIGITS) rfl))) pa_nil)))))), fun fr Qv hret => ?_⟩)
  replace h : m_is_figures p_text Q X := h
  unfold m_is_figures at h
  refine kn_seq (kn_if (wt_not (wt_test (we_chainI (we_cI (we_cb (wa_cons (we_var rfl (wa_nil (cy_lenS (fun e1 => (⟨_, _, _, rfl, rfl, we_cI (⟨rfl, rfl⟩), ⟨_, rfl, ⟨fun hc => ?_, fun hc => ?_⟩⟩⟩))))))))))))
  · have h := h.1 hc
    refine kn_ret (we_cB ?_)
    exact hret _ h _
  · have h := h.2 hc
    refine kn_next ?_
    try dsimp only
    refine kn_seq (kn_if (wt_andP (wt_test (we_op (we_op (we_var rfl (we_cI ?_)))))))
    obtain ⟨v3, ev3, h⟩ := h
    refine oy_ixS ev3 (we_cSy (z := "0") (asc_of (by decide)) (by decide) (oy_eqS (⟨_, rfl, ⟨_, fun _ => wt_test (we_op (we_cb (wa_cons (we_var rfl (wa_nil (cy_lenS (fun e2 => (we_cI (ops_B0 (⟨_, rfl, ⟨rfl, rfl⟩⟩)))))))))), ⟨fun hc => ?_, fun hc => ?_⟩⟩⟩)))
    · have h := h.1 hc
      refine kn_ret (we_cB ?_)
      exact hret _ h _
    · have h := h.2 hc
      refine kn_next ?_
      try dsimp only
      refine kn_ret (we_cb (wa_cons (we_lcM (r := yS) (s := zB) (wi_str (we_var rfl (⟨_, rfl, fun e7 => ⟨_, _, _, _, rfl, rfl, e7, fun _ => tg_name, h, fun x4 c k5 h => ?_, fun ys6 h eys6 => ?_⟩⟩))))))
      · refine we_op (we_var rfl (we_cSy (asc_of (by decide)) (by decide) ?_))
        obtain ⟨g9, h⟩ := h
        refine oy_inG g9 ?_
        exact ⟨rfl, _, rfl, h⟩
      refine wa_nil (cy_all ?_)
      exact hret _ h _
abbrev s_Ratio_read : Stmt := inClass (topS 11) 1
theorem sc_Ratio_read : FnScope ["text", "negative", "body", "top", "slash", "bottom", "ratio"] ["text"] (defScope s_Ratio_read) := ⟨rfl, rfl, rfl, by decide +kernel, rfl, by decide +kernel, by decide +kernel⟩
def m_Ratio_read (p_text : Str) : DM (Int × Int) := fun Q X =>
  ∀ negative1, negative1 = (Txt.startswith p_text ("-" : Str)) →
  ∀ body2, body2 = (bif negative1 then (cutS p_text (some (1 : Int)) none) else p_text) →
  ((("/" : Str).length == 0) = false ∧ (Txt.partition body2 ("/" : Str)).1.length ≤ big ∧ (Txt.partition body2 ("/" : Str)).2.1.length ≤ big ∧ (Txt.partition body2 ("/" : Str)).2.2.length ≤ big) ∧
  m_is_figures ((Txt.partition body2 ("/" : Str)).1) (fun v4 =>
  ifD (!v4) (
  X (.badWord p_text)) (
  joinD (fun j6 =>
  ifD (decide ((Txt.partition body2 ("/" : Str)).2.1 = ("" : Str))) (
  j6 ("1" : Str)) (
  j6 ((Txt.partition body2 ("/" : Str)).2.2))) (fun s5 : Str =>
  m_is_figures s5 (fun v7 =>
  ifD ((!v7) || (decide (s5 = ("0" : Str)))) (
  X (.badWord p_text)) (
  joinD (fun k8 =>
  ifD negative1 (∃ v10, PySem.intText? ((Txt.partition body2 ("/" : Str)).1) = some v10 ∧ ((Txt.partition body2 ("/" : Str)).1).length ≤ 640 ∧
  k8 (-v10)) (∃ v11, PySem.intText? ((Txt.partition body2 ("/" : Str)).1) = some v11 ∧ ((Txt.partition body2 ("/" : Str)).1).length ≤ 640 ∧
  k8 v11)) (fun v9 : Int =>
  ∃ v12, PySem.intText? s5 = some v12 ∧ s5.length ≤ 640 ∧
  m_Ratio___init__ v9 v12 (fun v13 =>
  m_Ratio___str__ v13 (fun v14 =>
  ifD (!decide (v14 = p_text)) (
  X (.badWord p_text)) (
  Q v13)) noX) X))) noX))) noX
theorem ok_Ratio_read {k : Nat} {cs : EK → Addr} {f_BadWord C_Ratio : Addr} (B : Bl mg) (D_is_figures : Def P w K mg base CX0 (k + 1) "is_figures" ["text"] (spA (preW (erW cs) (fun x : Str => [iz yS x]) zB (fun x => m_is_figures x)))) (X_BadWord : ErrTxt P K mg false "BadWord" (cs .badWord) f_BadWord ["word"]) (m_Ratio : mg "Ratio" = some (.ref C_Ratio)) (DI_Ratio : DefI P w K mg base (L2.CX P w) k C_Ratio ["self", "top", "bottom"] (spI C_Ratio (preW (erW cs) (fun x : Int × Int => [iz zI x.1, iz zI x.2]) (zRatio C_Ratio) (fun x => m_Ratio___init__ x.1 x.2)))) (DMk_Ratio___str__ : DefM P w K mg base CX0 k C_Ratio "__str__" ["self"] (spA (preW (erW cs) (fun x : (Int × Int) => [iz (zRatio C_Ratio) x]) yS (fun x => m_Ratio___str__ x))))
    (F : SrcS K C_Ratio "read" "Ratio.read" s_Ratio_read ["text"]) : DefS P w K mg base (L2.CX P w) (k + 2) C_Ratio "read" ["text"] (spA (preW (erW cs) (fun x : Str => [iz yS x]) (zRatio C_Ratio) (fun x => m_Ratio_read x))) := by
  refine F.okWX sc_Ratio_read (fun _ => rfl) (fun f cdv A outer s H E p_text Q X hr h => ⟨_, (pss_cons (ps_asg (pe_bm PySem.F.plainAttrs_str PySem.F.slot_str_startswith PySem.F.type_str_startswith mt_startswith (pv 0) (pa_cons pe_str pa_nil)) (pg_name (i := 1) sc_Ratio_read.nd rfl (Or.inl rfl)))
 (pss_cons (ps_asg (pe_ifExp (pt_val (pv 1)) (pe_slice sl_str (pv 0) (po_some pe_int) po_none) (pv 0)) (pg_name (i := 2) sc_Ratio_read.nd rfl (Or.inl rfl)))
 (pss_cons (ps_asg (pe_bm PySem.F.plainAttrs_str PySem.F.slot_str_partition PySem.F.type_str_partition mt_partition (pv 2) (pa_cons pe_str pa_nil)) (kpg_tup (K := K) (n := 3) rfl (pgs_cons (pg_name (i := 3) sc_Ratio_read.nd rfl (Or.inl rfl)) (pgs_cons (pg_name (i := 4) sc_Ratio_read.nd rfl (Or.inl rfl)) (pgs_cons (pg_name (i := 5) sc_Ratio_read.nd rfl (Or.inl rfl)) pgs_nil)))))
 (pss_cons (ps_if (pt_not (pt_val (pe_def D_is_figures hr pass0 (pa_cons (pv 3) pa_nil)))) (pss_one (ps_raiseE rfl X_BadWord hr (takes_of rfl rfl rfl rfl) (pa_cons (pv 0) pa_nil))) pss_nil)
 (C8.pss_cut (ps_if (pt_cmpR op_eq (pv 4) pe_str (nomark _)) (pss_one (ps_asg pe_str (pg_name (i := 5) sc_Ratio_read.nd rfl (Or.inl rfl)))) pss_nil)
 (pss_cons (ps_if (PW.pt (pw_or (pt_not (pt_val (pe_def D_is_figures hr pass0 (pa_cons (pv 5) pa_nil)))) (pw_or1 (pt_cmpR op_eq (pv 5) pe_str (nomark _))))) (pss_one (ps_raiseE rfl X_BadWord hr (takes_of rfl rfl rfl rfl) (pa_cons (pv 0) pa_nil))) pss_nil)
 (pss_cons (ps_asg (pe_mkD DI_Ratio m_Ratio hr (fun σ => Passes.at (passes_call (takes_of rfl rfl rfl rfl) (fun _ _ _ _ h => h)) σ) (pa_cons (pe_ifExp (pt_val (pv 1)) (pe_un un_neg (pe_callTy call_int_str (by rfl) B.int' (by decide +kernel) (pa_cons (pv 3) pa_nil))) (pe_callTy call_int_str (by rfl) B.int' (by decide +kernel) (pa_cons (pv 3) pa_nil))) (pa_cons (pe_callTy call_int_str (by rfl) B.int' (by decide +kernel) (pa_cons (pv 5) pa_nil)) pa_nil))) (pg_name (i := 6) sc_Ratio_read.nd rfl (Or.inl rfl)))
 (pss_cons (ps_if (pt_cmpR op_ne (pe_callTy (call_strO DMk_Ratio___str__ hr passAt0) (by rfl) B.str' (by decide +kernel) (pa_cons (pv 6) pa_nil)) (pv 0) (nomark _)) (pss_one (ps_raiseE rfl X_BadWord hr (takes_of rfl rfl rfl rfl) (pa_cons (pv 0) pa_nil))) pss_nil)
 (pss_one (ps_ret (pv 6))))))))))), fun fr Qv hret hrse => ?_⟩)
  replace h : m_Ratio_read p_text Q X := h
  unfold m_Ratio_read at h
  refine kn_seq (kn_asgL (i := 1) (r := zB) (we_bm (we_var rfl (⟨tyl_yS, wa_cons (we_cSy (z := "-") (asc_of (by decide)) (by decide) (wa_nil (my_starts (⟨_, rfl, fun negative1 enegative1 => ?_⟩))))⟩))))
  have h := h negative1 enegative1
  refine kn_nrm (Γ' := [some (iz yS p_text), some (iz zB negative1), none, none, none, none, none]) rfl ?_
  try dsimp only
  refine kn_seq (kn_asgL (i := 2) (r := yS) (we_ifP (r := yS) (wt_b (we_var rfl (⟨_, rfl, ⟨_, _, fun _ => we_sl (we_var rfl (wo_some (we_cI (⟨_, rfl, wo_none (sy_slS (⟨rfl, rfl⟩))⟩)))), fun _ => we_var rfl (⟨rfl, rfl⟩), ⟨_, rfl, fun body2 ebody2 => ?_⟩⟩⟩)))))
  have h := h body2 ebody2
  refine kn_nrm (Γ' := [some (iz yS p_text), some (iz zB negative1), some (iz yS body2), none, none, none, none]) rfl ?_
  try dsimp only
  refine kn_seq (kn_asgT (we_bm (we_var rfl (⟨tyl_yS, wa_cons (we_cSy (z := "/") (asc_of (by decide)) (by decide) (wa_nil ?_))⟩))))
  obtain ⟨g3, h⟩ := h
  refine my_part g3 (⟨_, _, tg3 (by decide) (by decide) (by decide), ?_⟩)
  refine kn_nrm (Γ' := [some (iz yS p_text), some (iz zB negative1), some (iz yS body2), some (iz yS ((Txt.partition body2 ("/" : Str)).1)), some (iz yS ((Txt.partition body2 ("/" : Str)).2.1)), some (iz yS ((Txt.partition body2 ("/" : Str)).2.2)), none]) rfl ?_
  try dsimp only
  refine kn_seq (kn_if (wt_not (wt_b (we_callE (wa_cons (we_var rfl (wa_nil ?_)))))))
  refine sps_W0 (Txt.partition body2 ("/" : Str)).1 h (fun v4 h => ?_)
  refine ⟨_, rfl, ⟨fun hc => ?_, fun hc => ?_⟩⟩
  · have h := h.1 hc
    refine kn_raiseY (wa_cons (we_var rfl (wa_nil ?_)))
    exact ⟨rfl, (fun h => nomatch h), hrse _ h _ _⟩
  · have h := h.2 hc
    refine kn_next ?_
    try dsimp only
    refine kn_cutW (S := Str) (fun s5 => [some (iz yS p_text), some (iz zB negative1), some (iz yS body2), some (iz yS ((Txt.partition body2 ("/" : Str)).1)), some (iz yS ((Txt.partition body2 ("/" : Str)).2.1)), some (iz yS s5), none]) (fun s5 => []) h (fun M hjn h => ?_) (fun s5 h => ?_)
    · refine kn_if (wt_test (we_op (we_var rfl (we_cSy (z := "") (asc_of (by decide)) (by decide) (oy_eqS (⟨_, rfl, ⟨fun hc => ?_, fun hc => ?_⟩⟩))))))
      · have h := h.1 hc
        refine kn_asg (i := 5) (we_cSy (z := "1") (asc_of (by decide)) (by decide) ?_)
        exact hjn ("1" : Str) _ _ h (by and_intros) rfl
      · have h := h.2 hc
        refine kn_next ?_
        exact hjn ((Txt.partition body2 ("/" : Str)).2.2) _ _ h (by and_intros) rfl
    try dsimp only
    refine kn_seq (kn_if (wt_orP (wt_not (wt_b (we_callE (wa_cons (we_var rfl (wa_nil ?_))))))))
    refine sps_W0 s5 h (fun v7 h => ?_)
    refine ⟨_, rfl, ⟨_, fun _ => wt_test (we_op (we_var rfl (we_cSy (z := "0") (asc_of (by decide)) (by decide) (oy_eqS (⟨_, rfl, ⟨rfl, rfl⟩⟩))))), ⟨fun hc => ?_, fun hc => ?_⟩⟩⟩
    · have h := h.1 hc
      refine kn_raiseY (wa_cons (we_var rfl (wa_nil ?_)))
      exact ⟨rfl, (fun h => nomatch h), hrse _ h _ _⟩
    · have h := h.2 hc
      refine kn_next ?_
      try dsimp only
      refine kn_seq (kn_asg (i := 6) (we_mkP (wa_cons ?_)))
      refine we_ifX (r := zI) h (fun h => ?_) (fun v9 h => ?_)
      · refine wt_b (we_var rfl (⟨_, rfl, ⟨rfl, fun hc => ?_, fun hc => ?_⟩⟩))
        · have h := h.1 hc
          refine we_un (we_cb (wa_cons (we_var rfl (wa_nil ?_))))
          obtain ⟨v10, ev10, lv10, h⟩ := h
          refine cy_intS ev10 lv10 (uns_I ?_)
          exact ⟨rfl, _, rfl, h⟩
        · have h := h.2 hc
          refine we_cb (wa_cons (we_var rfl (wa_nil ?_)))
          obtain ⟨v11, ev11, lv11, h⟩ := h
          refine cy_intS ev11 lv11 ?_
          exact ⟨rfl, _, rfl, h⟩
      refine wa_cons (we_cb (wa_cons (we_var rfl (wa_nil ?_))))
      obtain ⟨v12, ev12, lv12, h⟩ := h
      refine cy_intS ev12 lv12 (wa_nil ?_)
      refine mkWE hrse (v9, v12) h (fun v13 h => ?_)
      refine kn_nrm (Γ' := [some (iz yS p_text), some (iz zB negative1), some (iz yS body2), some (iz yS ((Txt.partition body2 ("/" : Str)).1)), some (iz yS ((Txt.partition body2 ("/" : Str)).2.1)), some (iz yS s5), some (iz (zRatio C_Ratio) v13)]) rfl ?_
      try dsimp only
      refine kn_seq (kn_if (wt_test (we_op (we_cb (wa_cons (we_var rfl (wa_nil (cb_sp1 insC_in ?_))))))))
      refine sps_W0 v13 h (fun v14 h => ?_)
      refine ⟨rp_S, we_var rfl (oy_neS (⟨_, rfl, ⟨fun hc => ?_, fun hc => ?_⟩⟩))⟩
      · have h := h.1 hc
        refine kn_raiseY (wa_cons (we_var rfl (wa_nil ?_)))
        exact ⟨rfl, (fun h => nomatch h), hrse _ h _ _⟩
      · have h := h.2 hc
        refine kn_next ?_
        try dsimp only
        refine kn_ret (we_var rfl ?_)
        exact hret _ h _
end
section
variable {P : Program} {w : World} {K : PySem.W.Frag} {mg : Str → Option Value} {base : Heap}
abbrev s__law_number : Stmt := topS 15
theorem sc__law_number : FnScope ["_law_bag_here", "_law_size", "_law_number_here"] ["_law_bag_here"] (defScope s__law_number) := ⟨rfl, rfl, rfl, by decide +kernel, rfl, by decide +kernel, by decide +kernel⟩
def m__law_number  : DM Int := fun Q X =>
  m_draw (4 : Int) (fun v1 =>
  m_draw (13 : Int) (fun v2 =>
  joinD (fun j4 =>
  ifD (decide (v1 = (1 : Int))) (
  m_draw (1001 : Int) (fun v5 =>
  j4 v5) noX) (
  j4 v2)) (fun s3 : Int =>
  joinD (fun j7 =>
  ifD (decide (v1 = (2 : Int))) (
  CPow (10 : Int) (9 : Int) ∧
  m_draw ((10 : Int) ^ ((9 : Int)).toNat) (fun v9 =>
  CPow (10 : Int) (9 : Int) ∧
  m_draw ((10 : Int) ^ ((9 : Int)).toNat) (fun v11 =>
  CMul v9 ((1 : Int) + v11) ∧
  ∀ number13, number13 = (v9 * ((1 : Int) + v11)) →
  j7 number13) noX) noX) (
  j7 s3)) (fun s6 : Int =>
  joinD (fun j15 =>
  m_draw (2 : Int) (fun v16 =>
  ifD (decide (v16 = (1 : Int))) (
  ∀ number17, number17 = (-s6) →
  j15 number17) (
  j15 s6)) noX) (fun s14 : Int =>
  Q s14)))) noX) noX
theorem ok__law_number {k : Nat} {cs : EK → Addr} (B : Bl mg) (D__law_draw : Def P w K mg base CX0 k "_law_draw" ["_law_bag_here", "_law_many"] (spC (preK (cBag 4) (preBW (fun x : Int => [iz zI x]) zI m_draw))))
    (F : Src K mg "_law_number" s__law_number ["_law_bag_here"]) : Def P w K mg base CX0 (k + 1) "_law_number" ["_law_bag_here"] (spC (preK (cBag 4) (preBW (fun x : Unit => []) zI (fun x => m__law_number)))) := by
  refine F.okKW (fun _ _ => rfl) sc__law_number (fun _ => rfl) (fun f cdv A outer s H E b l x Q hr h => ⟨_, (pss_cons (ps_asg (pe_def D__law_draw hr pass0 (pa_cons (pv 0) (pa_cons pe_int pa_nil))) (pg_name (i := 1) sc__law_number.nd rfl (Or.inl rfl)))
 (pss_cons (ps_asg (pe_def D__law_draw hr pass0 (pa_cons (pv 0) (pa_cons pe_int pa_nil))) (pg_name (i := 2) sc__law_number.nd rfl (Or.inl rfl)))
 (C8.pss_cut (ps_if (pt_cmpR op_eq (pv 1) pe_int (nomark _)) (pss_one (ps_asg (pe_def D__law_draw hr pass0 (pa_cons (pv 0) (pa_cons pe_int pa_nil))) (pg_name (i := 2) sc__law_number.nd rfl (Or.inl rfl)))) pss_nil)
 (C8.pss_cut (ps_if (pt_cmpR op_eq (pv 1) pe_int (nomark _)) (pss_one (ps_asg (pe_op op_mul (pe_def D__law_draw hr pass0 (pa_cons (pv 0) (pa_cons (pe_op op_pow pe_int pe_int) pa_nil))) (pe_op op_add pe_int (pe_def D__law_draw hr pass0 (pa_cons (pv 0) (pa_cons (pe_op op_pow pe_int pe_int) pa_nil))))) (pg_name (i := 2) sc__law_number.nd rfl (Or.inl rfl)))) pss_nil)
 (C8.pss_cut (ps_if (pt_cmpR op_eq (pe_def D__law_draw hr pass0 (pa_cons (pv 0) (pa_cons pe_int pa_nil))) pe_int (nomark _)) (pss_one (ps_asg (pe_un un_neg (pv 2)) (pg_name (i := 2) sc__law_number.nd rfl (Or.inl rfl)))) pss_nil)
 (pss_one (ps_ret (pv 2)))))))), fun fr Qv hret => ?_⟩)
  replace h : m__law_number Q noX := h
  unfold m__law_number at h
  refine kn_seq (kn_asg (i := 1) (we_callE (wa_cons (we_var rfl (wa_cons (we_cI (wa_nil ?_)))))))
  refine sps_KW (mk := cBag 4) (j := 0) rfl (4 : Int) h (fun v1 h => ?_)
  try dsimp only
  refine kn_seq (kn_asg (i := 2) (we_callE (wa_cons (we_var rfl (wa_cons (we_cI (wa_nil ?_)))))))
  refine sps_KW (mk := cBag 4) (j := 0) rfl (13 : Int) h (fun v2 h => ?_)
  try dsimp only
  refine kn_cutW (S := Int) (fun s3 => [some (zAt b), some (iz zI v1), some (iz zI s3)]) (fun s3 => [cBag 4 b l]) h (fun M hjn h => ?_) (fun s3 h => ?_)
  · refine kn_if (wt_test (we_op (we_var rfl (we_cI (ops_eqI (⟨_, rfl, ⟨fun hc => ?_, fun hc => ?_⟩⟩))))))
    · have h := h.1 hc
      refine kn_asg (i := 2) (we_callE (wa_cons (we_var rfl (wa_cons (we_cI (wa_nil ?_))))))
      refine sps_KW (mk := cBag 4) (j := 0) rfl (1001 : Int) h (fun v5 h => ?_)
      exact hjn v5 _ _ h (by and_intros) rfl
    · have h := h.2 hc
      refine kn_next ?_
      exact hjn v2 _ _ h (by and_intros) rfl
  try dsimp only
  refine kn_cutW (S := Int) (fun s6 => [some (zAt b), some (iz zI v1), some (iz zI s6)]) (fun s6 => [cBag 4 b l]) h (fun M hjn h => ?_) (fun s6 h => ?_)
  · refine kn_if (wt_test (we_op (we_var rfl (we_cI (ops_eqI (⟨_, rfl, ⟨fun hc => ?_, fun hc => ?_⟩⟩))))))
    · have h := h.1 hc
      refine kn_asgL (i := 2) (r := zI) (we_op (we_callE (wa_cons (we_var rfl (wa_cons (we_op (we_cI (we_cI ?_))))))))
      obtain ⟨g8, h⟩ := h
      refine ops_IC g8 (wa_nil ?_)
      refine sps_KW (mk := cBag 4) (j := 0) rfl ((10 : Int) ^ ((9 : Int)).toNat) h (fun v9 h => ?_)
      refine we_op (we_cI (we_callE (wa_cons (we_var rfl (wa_cons (we_op (we_cI (we_cI ?_))))))))
      obtain ⟨g10, h⟩ := h
      refine ops_IC g10 (wa_nil ?_)
      refine sps_KW (mk := cBag 4) (j := 0) rfl ((10 : Int) ^ ((9 : Int)).toNat) h (fun v11 h => ?_)
      refine ops_I0 ?_
      obtain ⟨g12, h⟩ := h
      refine ops_IC g12 (⟨_, rfl, fun number13 enumber13 => ?_⟩)
      have h := h number13 enumber13
      exact hjn number13 _ _ h (by and_intros) rfl
    · have h := h.2 hc
      refine kn_next ?_
      exact hjn s3 _ _ h (by and_intros) rfl
  try dsimp only
  refine kn_cutW (S := Int) (fun s14 => [some (zAt b), some (iz zI v1), some (iz zI s14)]) (fun s14 => [cBag 4 b l]) h (fun M hjn h => ?_) (fun s14 h => ?_)
  · refine kn_if (wt_test (we_op (we_callE (wa_cons (we_var rfl (wa_cons (we_cI (wa_nil ?_))))))))
    refine sps_KW (mk := cBag 4) (j := 0) rfl (2 : Int) h (fun v16 h => ?_)
    refine we_cI (ops_eqI (⟨_, rfl, ⟨fun hc => ?_, fun hc => ?_⟩⟩))
    · have h := h.1 hc
      refine kn_asgL (i := 2) (r := zI) (we_un (we_var rfl (uns_I (⟨_, rfl, fun number17 enumber17 => ?_⟩))))
      have h := h number17 enumber17
      exact hjn number17 _ _ h (by and_intros) rfl
    · have h := h.2 hc
      refine kn_next ?_
      exact hjn s6 _ _ h (by and_intros) rfl
  try dsimp only
  refine kn_ret (we_var rfl ?_)
  exact hret _ h _ (List.mem_of_getElem? (i := 0) rfl)
abbrev s__law_divisor : Stmt := topS 16
theorem sc__law_divisor : FnScope ["_law_first", "_law_second", "_law_large", "_law_small", "_law_k", "_law_rest"] ["_law_first", "_law_second"] (defScope s__law_divisor) := ⟨rfl, rfl, rfl, by decide +kernel, rfl, by decide +kernel, by decide +kernel⟩
def m__law_divisor (p_law_first : Int) (p_law_second : Int) : DM Int := fun Q X =>
  ∀ large1, large1 = (if p_law_first < 0 then -p_law_first else p_law_first) →
  ∀ small2, small2 = (if p_law_second < 0 then -p_law_second else p_law_second) →
  forD (intsF 0 ((2000 : Int)).toNat) (large1, small2) (fun x4 s3 nx bk =>
  ifD (decide (s3.2 = (0 : Int))) (
  Q s3.1) (
  s3.2 ≠ 0 ∧
  ∀ rest6, rest6 = (Int.fmod s3.1 s3.2) →
  nx (s3.2, rest6))) (fun s3 =>
  Q s3.1)
theorem ok__law_divisor {k : Nat} {cs : EK → Addr} (B : Bl mg) 
    (F : Src K mg "_law_divisor" s__law_divisor ["_law_first", "_law_second"]) : Def P w K mg base CX0 (k + 1) "_law_divisor" ["_law_first", "_law_second"] (spA (preW (erW cs) (fun x : Int × Int => [iz zI x.1, iz zI x.2]) zI (fun x => m__law_divisor x.1 x.2))) := by
  refine F.okW sc__law_divisor (fun _ => rfl) (fun f cdv A outer s H E x Q X hr h => ⟨_, (pss_cons (ps_asg (pe_callB call_abs (by rfl) B.abs (by decide +kernel) (pa_cons (pv 0) pa_nil)) (pg_name (i := 2) sc__law_divisor.nd rfl (Or.inl rfl)))
 (pss_cons (ps_asg (pe_callB call_abs (by rfl) B.abs (by decide +kernel) (pa_cons (pv 1) pa_nil)) (pg_name (i := 3) sc__law_divisor.nd rfl (Or.inl rfl)))
 (pss_cons (ps_for PassesOwn.never rfl (pi_range1 (by rfl) B.range (pa_cons pe_int pa_nil)) (pg_name (i := 4) sc__law_divisor.nd rfl (Or.inl rfl)) (pss_cons (ps_if (pt_cmpR op_eq (pv 3) pe_int (nomark _)) (pss_one (ps_ret (pv 2))) pss_nil)
 (pss_cons (ps_asg (pe_op op_modN (pe_callTy call_int1 (by rfl) B.int' (by decide +kernel) (pa_cons (pv 2) pa_nil)) (pv 3)) (pg_name (i := 5) sc__law_divisor.nd rfl (Or.inl rfl)))
 (pss_cons (ps_asg (pv 3) (pg_name (i := 2) sc__law_divisor.nd rfl (Or.inl rfl)))
 (pss_one (ps_asg (pv 5) (pg_name (i := 3) sc__law_divisor.nd rfl (Or.inl rfl))))))))
 (pss_one (ps_ret (pv 2)))))), fun fr Qv hret => ?_⟩)
  obtain ⟨p_law_first, p_law_second⟩ := x
  replace h : m__law_divisor p_law_first p_law_second Q X := h
  unfold m__law_divisor at h
  refine kn_seq (kn_asgL (i := 2) (r := zI) (we_cb (wa_cons (we_var rfl (wa_nil (cb_abs (⟨_, rfl, fun large1 elarge1 => ?_⟩)))))))
  have h := h large1 elarge1
  refine kn_nrm (Γ' := [some (iz zI p_law_first), some (iz zI p_law_second), some (iz zI large1), none, none, none]) rfl ?_
  try dsimp only
  refine kn_seq (kn_asgL (i := 3) (r := zI) (we_cb (wa_cons (we_var rfl (wa_nil (cb_abs (⟨_, rfl, fun small2 esmall2 => ?_⟩)))))))
  have h := h small2 esmall2
  refine kn_nrm (Γ' := [some (iz zI p_law_first), some (iz zI p_law_second), some (iz zI large1), some (iz zI small2), none, none]) rfl ?_
  try dsimp only
  refine kn_seq (kn_forW (r := zI) (S := Int × Int) (fun s3 => [some (iz zI p_law_first), some (iz zI p_law_second), some (iz zI s3.1), some (iz zI s3.2), none, none]) (fun s3 => []) (large1, small2) (wi_range (wa_cons (we_cI (wa_nil (⟨_, rfl, (by have hb : big = 100000 := rfl; omega), (by have hb : big = 100000 := rfl; omega), ⟨_, _, _, _, _, rfl, rfl, (by and_intros), fun _ _ => tg_name, h, fun fr' le x4 s3 nx M hnx hbk h => ?_, fun s3 h => ?_⟩⟩))))))
  · have hret := hret.fine le
    refine kn_seq (kn_if (wt_test (we_op (we_var rfl (we_cI (ops_eqI (⟨_, rfl, ⟨fun hc => ?_, fun hc => ?_⟩⟩)))))))
    · have h := h.1 hc
      refine kn_ret (we_var rfl ?_)
      exact hret _ h _
    · have h := h.2 hc
      refine kn_next ?_
      try dsimp only
      refine kn_seq (kn_asgL (i := 5) (r := zI) (we_op (we_cb (wa_cons (we_var rfl (wa_nil (cb_int (we_var rfl ?_))))))))
      obtain ⟨g5, h⟩ := h
      refine ops_IC (C := fun _ j => j ≠ 0) g5 (⟨_, rfl, fun rest6 erest6 => ?_⟩)
      have h := h rest6 erest6
      refine kn_nrm (Γ' := [some (iz zI p_law_first), some (iz zI p_law_second), some (iz zI s3.1), some (iz zI s3.2), some (iz zI x4), some (iz zI rest6)]) rfl ?_
      try dsimp only
      refine kn_seq (kn_asg (i := 2) (we_var rfl ?_))
      refine kn_nrm (Γ' := [some (iz zI p_law_first), some (iz zI p_law_second), some (iz zI s3.2), some (iz zI s3.2), some (iz zI x4), some (iz zI rest6)]) rfl ?_
      try dsimp only
      refine kn_asg (i := 3) (we_var rfl ?_)
      exact hnx (s3.2, rest6) _ _ h (by and_intros) rfl
  try dsimp only
  refine kn_ret (we_var rfl ?_)
  exact hret _ h _
abbrev s__law_int : Stmt := topS 17
theorem sc__law_int : FnScope ["_law_told"] ["_law_told"] (defScope s__law_int) := ⟨rfl, rfl, rfl, by decide +kernel, rfl, by decide +kernel, by decide +kernel⟩
def m__law_int (p_law_told : Int) : DM Bool := fun Q X =>
  Q (true && (!false))
theorem ok__law_int {k : Nat} {cs : EK → Addr} (B : Bl mg) 
    (F : Src K mg "_law_int" s__law_int ["_law_told"]) : Def P w K mg base CX0 (k + 1) "_law_int" ["_law_told"] (spA (preW (erW cs) (fun x : Int => [iz zI x]) zB (fun x => m__law_int x))) := by
  refine F.okW sc__law_int (fun _ => rfl) (fun f cdv A outer s H E p_law_told Q X hr h => ⟨_, (pss_one (ps_ret (pe_and (pe_callB (kcall_isi (K := K)) (by rfl) B.isinstance (by decide +kernel) (pa_cons (pv 0) (pa_cons (pe_bltn (v := .ty "int") (by rfl) B.int' (by decide +kernel) rfl) pa_nil))) (pe_one (pe_not (pe_callB (kcall_isi (K := K)) (by rfl) B.isinstance (by decide +kernel) (pa_cons (pv 0) (pa_cons (pe_bltn (v := .ty "bool") (by rfl) B.bool' (by decide +kernel) rfl) pa_nil)))))))), fun fr Qv hret => ?_⟩)
  replace h : m__law_int p_law_told Q X := h
  unfold m__law_int at h
  refine kn_ret (we_andP (we_cb (wa_cons (we_var rfl (wa_cons (we_cT (wa_nil (cb_isi ty_I (show kitB "int" "int" = some true by decide +kernel) (⟨_, _, rfl, fun _ => we_not (we_cb (wa_cons (we_var rfl (wa_cons (we_cT (wa_nil (cb_isi ty_I (show kitB "int" "bool" = some false by decide +kernel) (⟨_, rfl, ⟨rfl, rfl⟩⟩)))))))), ?_⟩)))))))))
  exact hret _ h _
abbrev s__law_ratio : Stmt := topS 18
theorem sc__law_ratio : FnScope ["_law_told", "_law_top", "_law_bottom"] ["_law_told", "_law_top", "_law_bottom"] (defScope s__law_ratio) := ⟨rfl, rfl, rfl, by decide +kernel, rfl, by decide +kernel, by decide +kernel⟩
def m__law_ratioR (p_law_told : (Int × Int)) (p_law_top : Int) (p_law_bottom : Int) : DM Bool := fun Q X =>
  orD (!true) (fun k2 => m__law_int p_law_told.1 (fun v3 =>
  orD (!v3) (fun k5 => m__law_int p_law_told.2 (fun v6 =>
  k5 (!v6)) noX) (fun c4 =>
  k2 c4)) noX) (fun c1 =>
  ifD c1 (
  Q false) (
  orD (decide (p_law_told.2 < (1 : Int))) (fun k8 => m__law_divisor p_law_told.1 p_law_told.2 (fun v9 =>
  k8 (!decide (v9 = (1 : Int)))) noX) (fun c7 =>
  ifD c7 (
  Q false) (
  CMulW p_law_told.1 p_law_bottom ∧
  CMulW p_law_top p_law_told.2 ∧
  Q (decide ((p_law_told.1 * p_law_bottom) = (p_law_top * p_law_told.2)))))))
theorem ok__law_ratioR {k : Nat} {cs : EK → Addr} {C_Ratio : Addr} (B : Bl mg) (T_Ratio : ClsA K mg C_Ratio "Ratio" ["top", "bottom"]) (D__law_int : Def P w K mg base CX0 k "_law_int" ["_law_told"] (spA (preW (erW cs) (fun x : Int => [iz zI x]) zB (fun x => m__law_int x)))) (D__law_divisor : Def P w K mg base CX0 k "_law_divisor" ["_law_first", "_law_second"] (spA (preW (erW cs) (fun x : Int × Int => [iz zI x.1, iz zI x.2]) zI (fun x => m__law_divisor x.1 x.2))))
    (F : Src K mg "_law_ratio" s__law_ratio ["_law_told", "_law_top", "_law_bottom"]) : Def P w K mg base CX0 (k + 1) "_law_ratio" ["_law_told", "_law_top", "_law_bottom"] (spA (preW (erW cs) (fun x : (Int × Int) × Int × Int => [iz (zRatio C_Ratio) x.1, iz zI x.2.1, iz zI x.2.2]) zB (fun x => m__law_ratioR x.1 x.2.1 x.2.2))) := by
  refine F.okW sc__law_ratio (fun _ => rfl) (fun f cdv A outer s H E x Q X hr h => ⟨_, (pss_cons (ps_if (PW.pt (pw_or (pt_not (pt_val (pe_callB (kcall_isi (K := K)) (by rfl) B.isinstance (by decide +kernel) (pa_cons (pv 0) (pa_cons (pe_glo T_Ratio.glo) pa_nil))))) (pw_or (pt_not (pt_val (pe_def D__law_int hr pass0 (pa_cons (kpe_fld (K := K) (pv 0)) pa_nil)))) (pw_or1 (pt_not (pt_val (pe_def D__law_int hr pass0 (pa_cons (kpe_fld (K := K) (pv 0)) pa_nil)))))))) (pss_one (ps_ret pe_bl)) pss_nil)
 (pss_cons (ps_if (PW.pt (pw_or (pt_cmpR op_lt (kpe_fld (K := K) (pv 0)) pe_int (nomark _)) (pw_or1 (pt_cmpR op_ne (pe_def D__law_divisor hr pass0 (pa_cons (kpe_fld (K := K) (pv 0)) (pa_cons (kpe_fld (K := K) (pv 0)) pa_nil))) pe_int (nomark _))))) (pss_one (ps_ret pe_bl)) pss_nil)
 (pss_one (ps_ret (pe_cmpR op_eq (pe_op op_mulW (kpe_fld (K := K) (pv 0)) (pv 2)) (pe_op op_mulW (pv 1) (kpe_fld (K := K) (pv 0))) (nomark _)))))), fun fr Qv hret => ?_⟩)
  obtain ⟨p_law_told, p_law_top, p_law_bottom⟩ := x
  replace h : m__law_ratioR p_law_told p_law_top p_law_bottom Q X := h
  unfold m__law_ratioR at h
  refine kn_seq (kn_if (wt_orC (wt_not (wt_b (we_cb (wa_cons (we_var rfl (wa_cons (we_cA (wa_nil (cb_isO T_Ratio.io insC_in T_Ratio.k1 (⟨_, rfl, ?_⟩))))))))))))
  refine orK h (fun h => ?_) (fun c1 h => ?_)
  · refine wt_orC (wt_not (wt_b (we_callE (wa_cons (we_fld (we_var rfl (⟨_, fld_in T_Ratio.toClsF (by decide) rfl, wa_nil ?_⟩)))))))
    refine sps_W0 p_law_told.1 h (fun v3 h => ?_)
    refine ⟨_, rfl, ?_⟩
    refine orK h (fun h => ?_) (fun c4 h => ?_)
    · refine wt_not (wt_b (we_callE (wa_cons (we_fld (we_var rfl (⟨_, fld_in T_Ratio.toClsF (by decide) rfl, wa_nil ?_⟩))))))
      refine sps_W0 p_law_told.2 h (fun v6 h => ?_)
      refine ⟨_, rfl, ?_⟩
      exact ⟨rfl, h⟩
    exact ⟨rfl, h⟩
  refine ⟨fun hc => ?_, fun hc => ?_⟩
  · have h := h.1 hc
    refine kn_ret (we_cB ?_)
    exact hret _ h _
  · have h := h.2 hc
    refine kn_next ?_
    try dsimp only
    refine kn_seq (kn_if (wt_orC (wt_test (we_op (we_fld (we_var rfl (⟨_, fld_in T_Ratio.toClsF (by decide) rfl, we_cI (ops_B0 (⟨_, rfl, ?_⟩))⟩)))))))
    refine orK h (fun h => ?_) (fun c7 h => ?_)
    · refine wt_test (we_op (we_callE (wa_cons (we_fld (we_var rfl (⟨_, fld_in T_Ratio.toClsF (by decide) rfl, wa_cons (we_fld (we_var rfl (⟨_, fld_in T_Ratio.toClsF (by decide) rfl, wa_nil ?_⟩)))⟩))))))
      refine sps_W0 (p_law_told.1, p_law_told.2) h (fun v9 h => ?_)
      refine we_cI (ops_neI (⟨_, rfl, ?_⟩))
      exact ⟨rfl, h⟩
    refine ⟨fun hc => ?_, fun hc => ?_⟩
    · have h := h.1 hc
      refine kn_ret (we_cB ?_)
      exact hret _ h _
    · have h := h.2 hc
      refine kn_next ?_
      try dsimp only
      refine kn_ret (we_op (we_op (we_fld (we_var rfl (⟨_, fld_in T_Ratio.toClsF (by decide) rfl, we_var rfl ?_⟩)))))
      obtain ⟨g10, h⟩ := h
      refine ops_IC g10 (we_op (we_var rfl (we_fld (we_var rfl (⟨_, fld_in T_Ratio.toClsF (by decide) rfl, ?_⟩)))))
      obtain ⟨g11, h⟩ := h
      refine ops_IC g11 (ops_eqI ?_)
      exact hret _ h _
def m__law_ratioU (p_law_told : (Option ((Int × Int) ⊕ (Str × Str)))) (p_law_top : Int) (p_law_bottom : Int) : DM Bool := fun Q X =>
  ∃ told1 : (Int × Int), p_law_told = (some (.inl told1)) ∧
  orD (!true) (fun k3 => m__law_int told1.1 (fun v4 =>
  orD (!v4) (fun k6 => m__law_int told1.2 (fun v7 =>
  k6 (!v7)) noX) (fun c5 =>
  k3 c5)) noX) (fun c2 =>
  ifD c2 (
  Q false) (
  orD (decide (told1.2 < (1 : Int))) (fun k9 => m__law_divisor told1.1 told1.2 (fun v10 =>
  k9 (!decide (v10 = (1 : Int)))) noX) (fun c8 =>
  ifD c8 (
  Q false) (
  CMulW told1.1 p_law_bottom ∧
  CMulW p_law_top told1.2 ∧
  Q (decide ((told1.1 * p_law_bottom) = (p_law_top * told1.2)))))))
theorem ok__law_ratioU {k : Nat} {cs : EK → Addr} {C_Ratio : Addr} (B : Bl mg) (T_Ratio : ClsA K mg C_Ratio "Ratio" ["top", "bottom"]) (D__law_int : Def P w K mg base CX0 k "_law_int" ["_law_told"] (spA (preW (erW cs) (fun x : Int => [iz zI x]) zB (fun x => m__law_int x)))) (D__law_divisor : Def P w K mg base CX0 k "_law_divisor" ["_law_first", "_law_second"] (spA (preW (erW cs) (fun x : Int × Int => [iz zI x.1, iz zI x.2]) zI (fun x => m__law_divisor x.1 x.2))))
    (F : Src K mg "_law_ratio" s__law_ratio ["_law_told", "_law_top", "_law_bottom"]) : Def P w K mg base CX0 (k + 1) "_law_ratio" ["_law_told", "_law_top", "_law_bottom"] (spA (preW (erW cs) (fun x : (Option ((Int × Int) ⊕ (Str × Str))) × Int × Int => [iz (yO (yU (zRatio C_Ratio) (z2 yS yS))) x.1, iz zI x.2.1, iz zI x.2.2]) zB (fun x => m__law_ratioU x.1 x.2.1 x.2.2))) := by
  refine F.okW sc__law_ratio (fun _ => rfl) (fun f cdv A outer s H E x Q X hr h => ⟨_, (pss_cons (ps_if (PW.pt (pw_or (pt_not (pt_val (pe_callB (kcall_isi (K := K)) (by rfl) B.isinstance (by decide +kernel) (pa_cons (pv 0) (pa_cons (pe_glo T_Ratio.glo) pa_nil))))) (pw_or (pt_not (pt_val (pe_def D__law_int hr pass0 (pa_cons (kpe_fld (K := K) (pv 0)) pa_nil)))) (pw_or1 (pt_not (pt_val (pe_def D__law_int hr pass0 (pa_cons (kpe_fld (K := K) (pv 0)) pa_nil)))))))) (pss_one (ps_ret pe_bl)) pss_nil)
 (pss_cons (ps_if (PW.pt (pw_or (pt_cmpR op_lt (kpe_fld (K := K) (pv 0)) pe_int (nomark _)) (pw_or1 (pt_cmpR op_ne (pe_def D__law_divisor hr pass0 (pa_cons (kpe_fld (K := K) (pv 0)) (pa_cons (kpe_fld (K := K) (pv 0)) pa_nil))) pe_int (nomark _))))) (pss_one (ps_ret pe_bl)) pss_nil)
 (pss_one (ps_ret (pe_cmpR op_eq (pe_op op_mulW (kpe_fld (K := K) (pv 0)) (pv 2)) (pe_op op_mulW (pv 1) (kpe_fld (K := K) (pv 0))) (nomark _)))))), fun fr Qv hret => ?_⟩)
  obtain ⟨p_law_told, p_law_top, p_law_bottom⟩ := x
  replace h : m__law_ratioU p_law_told p_law_top p_law_bottom Q X := h
  unfold m__law_ratioU at h
  obtain ⟨told1, etold1, h⟩ := h
  revert h; (first | subst etold1 | rw [etold1]); intro h
  refine kn_seq (kn_if (wt_orC (wt_not (wt_b (we_cb (wa_cons (we_var rfl (wa_cons (we_cA (wa_nil (cb_isO T_Ratio.io insC_in T_Ratio.k1 (⟨_, rfl, ?_⟩))))))))))))
  refine orK h (fun h => ?_) (fun c2 h => ?_)
  · refine wt_orC (wt_not (wt_b (we_callE (wa_cons (we_fld (we_var rfl (⟨_, fld_in T_Ratio.toClsF (by decide) rfl, wa_nil ?_⟩)))))))
    refine sps_W0 told1.1 h (fun v4 h => ?_)
    refine ⟨_, rfl, ?_⟩
    refine orK h (fun h => ?_) (fun c5 h => ?_)
    · refine wt_not (wt_b (we_callE (wa_cons (we_fld (we_var rfl (⟨_, fld_in T_Ratio.toClsF (by decide) rfl, wa_nil ?_⟩))))))
      refine sps_W0 told1.2 h (fun v7 h => ?_)
      refine ⟨_, rfl, ?_⟩
      exact ⟨rfl, h⟩
    exact ⟨rfl, h⟩
  refine ⟨fun hc => ?_, fun hc => ?_⟩
  · have h := h.1 hc
    refine kn_ret (we_cB ?_)
    exact hret _ h _
  · have h := h.2 hc
    refine kn_next ?_
    try dsimp only
    refine kn_seq (kn_if (wt_orC (wt_test (we_op (we_fld (we_var rfl (⟨_, fld_in T_Ratio.toClsF (by decide) rfl, we_cI (ops_B0 (⟨_, rfl, ?_⟩))⟩)))))))
    refine orK h (fun h => ?_) (fun c8 h => ?_)
    · refine wt_test (we_op (we_callE (wa_cons (we_fld (we_var rfl (⟨_, fld_in T_Ratio.toClsF (by decide) rfl, wa_cons (we_fld (we_var rfl (⟨_, fld_in T_Ratio.toClsF (by decide) rfl, wa_nil ?_⟩)))⟩))))))
      refine sps_W0 (told1.1, told1.2) h (fun v10 h => ?_)
      refine we_cI (ops_neI (⟨_, rfl, ?_⟩))
      exact ⟨rfl, h⟩
    refine ⟨fun hc => ?_, fun hc => ?_⟩
    · have h := h.1 hc
      refine kn_ret (we_cB ?_)
      exact hret _ h _
    · have h := h.2 hc
      refine kn_next ?_
      try dsimp only
      refine kn_ret (we_op (we_op (we_fld (we_var rfl (⟨_, fld_in T_Ratio.toClsF (by decide) rfl, we_var rfl ?_⟩)))))
      obtain ⟨g11, h⟩ := h
      refine ops_IC g11 (we_op (we_var rfl (we_fld (we_var rfl (⟨_, fld_in T_Ratio.toClsF (by decide) rfl, ?_⟩)))))
      obtain ⟨g12, h⟩ := h
      refine ops_IC g12 (ops_eqI ?_)
      exact hret _ h _
abbrev s__law_read : Stmt := topS 19
theorem sc__law_read : FnScope ["_law_text", "_law_told", "e"] ["_law_text"] (defScope s__law_read) := ⟨rfl, rfl, rfl, by decide +kernel, rfl, by decide +kernel, by decide +kernel⟩
def m__law_read (p_law_text : Str) : DM (Option ((Int × Int) ⊕ (Str × Str))) := fun Q X =>
  ∀ told1, told1 = (none : (Option ((Int × Int) ⊕ (Str × Str)))) →
  joinD (fun j3 =>
  tryD (fun e => match e with
  | .badWord y7 => ∀ told10, told10 = (some ((.inr (("BadWord" : Str), y7)) : ((Int × Int) ⊕ (Str × Str)))) →
  j3 told10
  | e => noX e) (fun X4 =>
  m_Ratio_read p_law_text (fun v5 =>
  ∀ told11, told11 = (some ((.inl v5) : ((Int × Int) ⊕ (Str × Str)))) →
  j3 told11) X4)) (fun s2 : (Option ((Int × Int) ⊕ (Str × Str))) =>
  Q s2)
theorem ok__law_read {k : Nat} {cs : EK → Addr} {f_BadWord C_Ratio : Addr} (B : Bl mg) (DM_Ratio_read : DefS P w K mg base (L2.CX P w) k C_Ratio "read" ["text"] (spA (preW (erW cs) (fun x : Str => [iz yS x]) (zRatio C_Ratio) (fun x => m_Ratio_read x)))) (g_Ratio : Glo mg "Ratio" (.ref C_Ratio)) (X_BadWord : ErrTxt P K mg false "BadWord" (cs .badWord) f_BadWord ["word"])
    (F : Src K mg "_law_read" s__law_read ["_law_text"]) : Def P w K mg base CX0 (k + 1) "_law_read" ["_law_text"] (spA (preW (erW cs) (fun x : Str => [iz yS x]) (yO (yU (zRatio C_Ratio) (z2 yS yS))) (fun x => m__law_read x))) := by
  refine F.okW sc__law_read (fun _ => rfl) (fun f cdv A outer s H E p_law_text Q X hr h => ⟨_, (pss_cons (ps_asg pe_non (pg_name (i := 1) sc__law_read.nd rfl (Or.inl rfl)))
 (C8.pss_cut (ps_try_as (i := 2) rfl rfl sc__law_read.nd rfl rfl ⟨rfl, by decide, .inl X_BadWord.gC⟩ takes0 (fun W pn xe tk _ => (pss_one (ps_asg (pe_smD DM_Ratio_read hr (fun σ => passAt tk σ) (pe_glo g_Ratio) (pa_cons (pv 0) pa_nil)) (pg_name (i := 1) sc__law_read.nd rfl (Or.inl rfl))))) (fun a oe cls d pn hz hf => (pss_one (ps_asg (pe_tup (pa_cons pe_str (pa_cons (pe_xf X_BadWord.xf (X_BadWord.noN _ (by decide)) hz hf (pv 2)) pa_nil))) (pg_name (i := 1) sc__law_read.nd rfl (Or.inl rfl))))))
 (pss_one (ps_ret (pv 1))))), fun fr Qv hret => ?_⟩)
  replace h : m__law_read p_law_text Q X := h
  unfold m__law_read at h
  refine kn_seq (kn_asgL (i := 1) (r := (yO (yU (zRatio C_Ratio) (z2 yS yS)))) (We.conv (we_cNy (⟨_, (le_On (r := (yU (zRatio C_Ratio) (z2 yS yS)))), ⟨_, rfl, fun told1 etold1 => ?_⟩⟩))))
  have h := h told1 etold1
  try dsimp only
  refine kn_cutW (S := (Option ((Int × Int) ⊕ (Str × Str)))) (fun s2 => [some (iz yS p_law_text), some (iz (yO (yU (zRatio C_Ratio) (z2 yS yS))) s2), none]) (fun s2 => []) h (fun M hjn h => ?_) (fun s2 h => ?_)
  · replace h := tryD.go h
    try dsimp only
    refine kn_asgL (i := 1) (r := (yO (yU (zRatio C_Ratio) (z2 yS yS)))) (We.conv (we_smD (we_cR (⟨rfl, wa_cons (we_var rfl (wa_nil ?_))⟩))))
    refine sps_WT p_law_text h (fun zv6 h => ?_) (fun v5 h => ?_)
    · cases zv6 with
      | badWord y7 =>
        try dsimp only at h
        refine kr_as X_BadWord.te fun a8 d9 => ?_
        try dsimp only
        refine kn_asgL (i := 1) (r := (yO (yU (zRatio C_Ratio) (z2 yS yS)))) (We.conv (we_tup (wa_cons (we_cSy (z := "BadWord") (asc_of (by decide)) (by decide) (wa_cons (we_xf (we_var rfl (⟨rfl, rfl, wa_nil (⟨Nat.le_of_ble_eq_true rfl, iz (z2 yS yS) (("BadWord" : Str), y7), tr2, ⟨_, (show Vp.Le (iz (z2 yS yS) (("BadWord" : Str), y7)) (iz (yO (yU (zRatio C_Ratio) (z2 yS yS))) (some ((.inr (("BadWord" : Str), y7)) : ((Int × Int) ⊕ (Str × Str))))) from fun F v h => ((show Vp.Le (iz (z2 yS yS) (("BadWord" : Str), y7)) (iz (yU (zRatio C_Ratio) (z2 yS yS)) ((.inr (("BadWord" : Str), y7)) : ((Int × Int) ⊕ (Str × Str)))) from fun F v h => h) : Vp.Le (iz (z2 yS yS) _) (iz (yU (zRatio C_Ratio) (z2 yS yS)) _)) F v h), ⟨_, rfl, fun told10 etold10 => ?_⟩⟩⟩)⟩))))))))
        have h := h told10 etold10
        refine kn_suite ?_
        try dsimp only
        exact hjn told10 _ _ h (by and_intros) rfl
      | _ => exact (show False from h).elim
    refine ⟨_, (show Vp.Le (iz (zRatio C_Ratio) v5) (iz (yO (yU (zRatio C_Ratio) (z2 yS yS))) (some ((.inl v5) : ((Int × Int) ⊕ (Str × Str))))) from fun F v h => ((show Vp.Le (iz (zRatio C_Ratio) v5) (iz (yU (zRatio C_Ratio) (z2 yS yS)) ((.inl v5) : ((Int × Int) ⊕ (Str × Str)))) from fun F v h => h) : Vp.Le (iz (zRatio C_Ratio) _) (iz (yU (zRatio C_Ratio) (z2 yS yS)) _)) F v h), ⟨_, rfl, fun told11 etold11 => ?_⟩⟩
    have h := h told11 etold11
    exact hjn told11 _ _ h (by and_intros) rfl
  try dsimp only
  refine kn_ret (We.conv (we_var rfl (⟨_, Vp.Le.refl _, ?_⟩)))
  exact hret _ h _
abbrev s__law_figures : Stmt := topS 20
theorem sc__law_figures : FnScope ["_law_text", "_law_sign"] ["_law_text"] (defScope s__law_figures) := ⟨rfl, rfl, rfl, by decide +kernel, rfl, by decide +kernel, by decide +kernel⟩
def m__law_figures (p_law_text : Str) : DM Bool := fun Q X =>
  orD (decide (((p_law_text).length : Int) < (1 : Int))) (fun k4 => orD (decide (((p_law_text).length : Int) > (60 : Int))) (fun k8 => ∃ v10, atI (p_law_text).cps.toList (0 : Int) = some v10 ∧
  k8 ((decide ((⟨#[v10]⟩ : Str) = ("0" : Str))) && (decide (((p_law_text).length : Int) > (1 : Int))))) (fun c7 =>
  k4 c7)) (fun c3 =>
  ifD c3 (
  Q false) (
  mapD (sgnL p_law_text) [] (fun x11 k12 =>
  x11.length = 1 ∧
  k12 (decide (x11 ∈ sgnL ("0123456789" : Str)))) (fun ys13 =>
  Q ((ys13).all id))))
theorem ok__law_figures {k : Nat} {cs : EK → Addr} (B : Bl mg) 
    (F : Src K mg "_law_figures" s__law_figures ["_law_text"]) : Def P w K mg base CX0 (k + 1) "_law_figures" ["_law_text"] (spA (preW (erW cs) (fun x : Str => [iz yS x]) zB (fun x => m__law_figures x))) := by
  refine F.okW sc__law_figures (fun _ => rfl) (fun f cdv A outer s H E p_law_text Q X hr h => ⟨_, (pss_cons (ps_if (PW.pt (pw_or (pt_cmpR op_lt (pe_callB call_len_str (by rfl) B.len PySem.boot_len (pa_cons (pv 0) pa_nil)) pe_int (nomark _)) (pw_or (pt_cmpR op_gt (pe_callB call_len_str (by rfl) B.len PySem.boot_len (pa_cons (pv 0) pa_nil)) pe_int (nomark _)) (pw_or1 (PW.pt (pw_and (pt_cmpR op_eq (pe_ix ix_str (pv 0) pe_int (fun _ _ => rfl)) pe_str (nomark _)) (pw_and1 (pt_cmpR op_gt (pe_callB call_len_str (by rfl) B.len PySem.boot_len (pa_cons (pv 0) pa_nil)) pe_int (nomark _))))))))) (pss_one (ps_ret pe_bl)) pss_nil)
 (pss_one (ps_ret (pe_callB (kcr_all (K := K) rfl) (by rfl) B.all' (by decide +kernel) (pa_cons (pe_lc (own := [("_law_sign", 1)]) (g := gName 1) (by rfl) sc__law_figures.nd (pi_str (pv 0)) (blkOk_by (N := ["_law_text", "_law_sign"]) (sc := defScope s__law_figures) (by decide +kernel)) (fun _ _ _ _ _ => (pg_name (i := 1) sc__law_figures.nd rfl (Or.inl rfl))) (fun _ _ _ _ _ => pts_nil) (fun _ _ _ _ _ => (pe_cmpR op_in_sign (pv 1) pe_str rfl))) pa_nil))))), fun fr Qv hret => ?_⟩)
  replace h : m__law_figures p_law_text Q X := h
  unfold m__law_figures at h
  refine kn_seq (kn_if (wt_orC (wt_test (we_op (we_cb (wa_cons (we_var rfl (wa_nil (cy_lenS (fun e2 => (we_cI (ops_B0 (⟨_, rfl, ?_⟩)))))))))))))
  refine orK h (fun h => ?_) (fun c3 h => ?_)
  · refine wt_orC (wt_test (we_op (we_cb (wa_cons (we_var rfl (wa_nil (cy_lenS (fun e6 => (we_cI (ops_B0 (⟨_, rfl, ?_⟩)))))))))))
    refine orK h (fun h => ?_) (fun c7 h => ?_)
    · refine wt_andP (wt_test (we_op (we_op (we_var rfl (we_cI ?_)))))
      obtain ⟨v10, ev10, h⟩ := h
      refine oy_ixS ev10 (we_cSy (z := "0") (asc_of (by decide)) (by decide) (oy_eqS (⟨_, rfl, ⟨_, fun _ => wt_test (we_op (we_cb (wa_cons (we_var rfl (wa_nil (cy_lenS (fun e9 => (we_cI (ops_B0 (⟨_, rfl, ⟨rfl, rfl⟩⟩)))))))))), ?_⟩⟩)))
      exact ⟨rfl, h⟩
    exact ⟨rfl, h⟩
  refine ⟨fun hc => ?_, fun hc => ?_⟩
  · have h := h.1 hc
    refine kn_ret (we_cB ?_)
    exact hret _ h _
  · have h := h.2 hc
    refine kn_next ?_
    try dsimp only
    refine kn_ret (we_cb (wa_cons (we_lcM (r := yS) (s := zB) (wi_str (we_var rfl (⟨_, rfl, fun e14 => ⟨_, _, _, _, rfl, rfl, e14, fun _ => tg_name, h, fun x11 c k12 h => ?_, fun ys13 h eys13 => ?_⟩⟩))))))
    · refine we_op (we_var rfl (we_cSy (z := "0123456789") (asc_of (by decide)) (by decide) ?_))
      obtain ⟨g16, h⟩ := h
      refine oy_inG g16 ?_
      exact ⟨rfl, _, rfl, h⟩
    refine wa_nil (cy_all ?_)
    exact hret _ h _
abbrev s__law_due : Stmt := topS 21
theorem sc__law_due : FnScope ["_law_text", "_law_body", "_law_parts", "_law_top", "_law_bottom", "_law_part"] ["_law_text"] (defScope s__law_due) := ⟨rfl, rfl, rfl, by decide +kernel, rfl, by decide +kernel, by decide +kernel⟩
def m__law_due (p_law_text : Str) : DM (Option (List Int)) := fun Q X =>
  joinD (fun j2 =>
  ifD (decide ((cutS p_law_text none (some (1 : Int))) = ("-" : Str))) (
  ∀ body3, body3 = (cutS p_law_text (some (1 : Int)) none) →
  j2 body3) (
  j2 p_law_text)) (fun s1 : Str =>
  ((("/" : Str).length == 0) = false ∧ s1.length < big ∧ (Txt.split s1 ("/" : Str)).length ≤ big ∧ ∀ z ∈ (Txt.split s1 ("/" : Str)), z.length ≤ big) ∧
  ∀ parts5, parts5 = (Txt.split s1 ("/" : Str)) →
  orD (decide (((parts5).length : Int) > (2 : Int))) (fun k9 => mapD parts5 [] (fun x10 k11 =>
  m__law_figures x10 (fun v15 =>
  k11 v15) noX) (fun ys12 =>
  k9 (!((ys12).all id)))) (fun c8 =>
  ifD c8 (
  Q (none : (Option (List Int)))) (
  ∃ v16, atI parts5 (0 : Int) = some v16 ∧
  ∃ v17, PySem.intText? v16 = some v17 ∧ v16.length ≤ 640 ∧
  joinD (fun j19 =>
  ifD (decide ((cutS p_law_text none (some (1 : Int))) = ("-" : Str))) (
  ifD (decide (v17 = (0 : Int))) (
  Q (none : (Option (List Int)))) (
  ∀ top20, top20 = (-v17) →
  j19 top20)) (
  j19 v17)) (fun s18 : Int =>
  ifD (decide (((parts5).length : Int) = (1 : Int))) (
  Q (some ([s18, (1 : Int)]))) (
  ∃ v22, atI parts5 (1 : Int) = some v22 ∧
  ∃ v23, PySem.intText? v22 = some v23 ∧ v22.length ≤ 640 ∧
  orD (decide (v23 < (2 : Int))) (fun k25 => m__law_divisor s18 v23 (fun v26 =>
  k25 (!decide (v26 = (1 : Int)))) noX) (fun c24 =>
  ifD c24 (
  Q (none : (Option (List Int)))) (
  Q (some ([s18, v23])))))))))
theorem ok__law_due {k : Nat} {cs : EK → Addr} (B : Bl mg) (D__law_figures : Def P w K mg base CX0 k "_law_figures" ["_law_text"] (spA (preW (erW cs) (fun x : Str => [iz yS x]) zB (fun x => m__law_figures x)))) (D__law_divisor : Def P w K mg base CX0 k "_law_divisor" ["_law_first", "_law_second"] (spA (preW (erW cs) (fun x : Int × Int => [iz zI x.1, iz zI x.2]) zI (fun x => m__law_divisor x.1 x.2))))
    (F : Src K mg "_law_due" s__law_due ["_law_text"]) : Def P w K mg base CX0 (k + 1) "_law_due" ["_law_text"] (spA (preW (erW cs) (fun x : Str => [iz yS x]) (yO (yL zI)) (fun x => m__law_due x))) := by
  refine F.okW sc__law_due (fun _ => rfl) (fun f cdv A outer s H E p_law_text Q X hr h => ⟨_, (pss_cons (ps_asg (pv 0) (pg_name (i := 1) sc__law_due.nd rfl (Or.inl rfl)))
 (C8.pss_cut (ps_if (pt_cmpR op_eq (pe_slice sl_str (pv 0) po_none (po_some pe_int)) pe_str (nomark _)) (pss_one (ps_asg (pe_slice sl_str (pv 0) (po_some pe_int) po_none) (pg_name (i := 1) sc__law_due.nd rfl (Or.inl rfl)))) pss_nil)
 (pss_cons (ps_asg (pe_bm PySem.F.plainAttrs_str PySem.F.slot_str_split PySem.F.type_str_split mt_split (pv 1) (pa_cons pe_str pa_nil)) (pg_name (i := 2) sc__law_due.nd rfl (Or.inl rfl)))
 (pss_cons (ps_if (PW.pt (pw_or (pt_cmpR op_gt (pe_callB (kcall_len (K := K)) (by rfl) B.len PySem.boot_len (pa_cons (pv 2) pa_nil)) pe_int (nomark _)) (pw_or1 (pt_not (pt_val (pe_callB (kcr_all (K := K) rfl) (by rfl) B.all' (by decide +kernel) (pa_cons (pe_lc (own := [("_law_part", 5)]) (g := gName 5) (by rfl) sc__law_due.nd (kpi_list (K := K) (pv 2)) (blkOk_by (N := ["_law_text", "_law_body", "_law_parts", "_law_top", "_law_bottom", "_law_part"]) (sc := defScope s__law_due) (by decide +kernel)) (fun _ _ _ _ _ => (pg_name (i := 5) sc__law_due.nd rfl (Or.inl rfl))) (fun _ _ _ _ _ => pts_nil) (fun _ _ _ _ _ => (pe_def D__law_figures hr pass0 (pa_cons (pv 5) pa_nil)))) pa_nil))))))) (pss_one (ps_ret pe_non)) pss_nil)
 (pss_cons (ps_asg (pe_callTy call_int_str (by rfl) B.int' (by decide +kernel) (pa_cons (pe_ix (kix_list (K := K)) (pv 2) pe_int (fun _ _ => rfl)) pa_nil)) (pg_name (i := 3) sc__law_due.nd rfl (Or.inl rfl)))
 (C8.pss_cut (ps_if (pt_cmpR op_eq (pe_slice sl_str (pv 0) po_none (po_some pe_int)) pe_str (nomark _)) (pss_cons (ps_if (pt_cmpR op_eq (pv 3) pe_int (nomark _)) (pss_one (ps_ret pe_non)) pss_nil)
 (pss_one (ps_asg (pe_un un_neg (pv 3)) (pg_name (i := 3) sc__law_due.nd rfl (Or.inl rfl))))) pss_nil)
 (pss_cons (ps_if (pt_cmpR op_eq (pe_callB (kcall_len (K := K)) (by rfl) B.len PySem.boot_len (pa_cons (pv 2) pa_nil)) pe_int (nomark _)) (pss_one (ps_ret (pe_lst (pa_cons (pv 3) (pa_cons pe_int pa_nil))))) pss_nil)
 (pss_cons (ps_asg (pe_callTy call_int_str (by rfl) B.int' (by decide +kernel) (pa_cons (pe_ix (kix_list (K := K)) (pv 2) pe_int (fun _ _ => rfl)) pa_nil)) (pg_name (i := 4) sc__law_due.nd rfl (Or.inl rfl)))
 (pss_cons (ps_if (PW.pt (pw_or (pt_cmpR op_lt (pv 4) pe_int (nomark _)) (pw_or1 (pt_cmpR op_ne (pe_def D__law_divisor hr pass0 (pa_cons (pv 3) (pa_cons (pv 4) pa_nil))) pe_int (nomark _))))) (pss_one (ps_ret pe_non)) pss_nil)
 (pss_one (ps_ret (pe_lst (pa_cons (pv 3) (pa_cons (pv 4) pa_nil)))))))))))))), fun fr Qv hret => ?_⟩)
  replace h : m__law_due p_law_text Q X := h
  unfold m__law_due at h
  refine kn_seq (kn_asg (i := 1) (we_var rfl ?_))
  refine kn_nrm (Γ' := [some (iz yS p_law_text), some (iz yS p_law_text), none, none, none, none]) rfl ?_
  try dsimp only
  refine kn_cutW (S := Str) (fun s1 => [some (iz yS p_law_text), some (iz yS s1), none, none, none, none]) (fun s1 => []) h (fun M hjn h => ?_) (fun s1 h => ?_)
  · refine kn_if (wt_test (we_op (we_sl (we_var rfl (wo_none (wo_some (we_cI (⟨_, rfl, sy_slS (we_cSy (z := "-") (asc_of (by decide)) (by decide) (oy_eqS (⟨_, rfl, ⟨fun hc => ?_, fun hc => ?_⟩⟩)))⟩))))))))
    · have h := h.1 hc
      refine kn_asgL (i := 1) (r := yS) (we_sl (we_var rfl (wo_some (we_cI (⟨_, rfl, wo_none (sy_slS (⟨_, rfl, fun body3 ebody3 => ?_⟩))⟩)))))
      have h := h body3 ebody3
      exact hjn body3 _ _ h (by and_intros) rfl
    · have h := h.2 hc
      refine kn_next ?_
      exact hjn p_law_text _ _ h (by and_intros) rfl
  try dsimp only
  refine kn_seq (kn_asgL (i := 2) (r := (yL yS)) (we_bm (we_var rfl (⟨tyl_yS, wa_cons (we_cSy (z := "/") (asc_of (by decide)) (by decide) (wa_nil ?_))⟩))))
  obtain ⟨g4, h⟩ := h
  refine my_split g4 (⟨_, rfl, fun parts5 eparts5 => ?_⟩)
  have h := h parts5 eparts5
  refine kn_nrm (Γ' := [some (iz yS p_law_text), some (iz yS s1), some (iz (yL yS) parts5), none, none, none]) rfl ?_
  try dsimp only
  refine kn_seq (kn_if (wt_orC (wt_test (we_op (we_cb (wa_cons (we_var rfl (wa_nil (cy_len sy_L (fun e7 => (we_cI (ops_B0 (⟨_, rfl, ?_⟩)))))))))))))
  refine orK h (fun h => ?_) (fun c8 h => ?_)
  · refine wt_not (wt_b (we_cb (wa_cons (we_lcM (r := yS) (s := zB) (wi_yL (we_var rfl (⟨_, _, _, rfl, fun e13 => ⟨_, _, _, _, rfl, rfl, e13, fun _ => tg_name, h, fun x10 c k11 h => ?_, fun ys12 h eys12 => ?_⟩⟩)))))))
    · refine we_callE (wa_cons (we_var rfl (wa_nil ?_)))
      refine sps_W0 x10 h (fun v15 h => ?_)
      exact ⟨rfl, _, rfl, h⟩
    refine wa_nil (cy_all (⟨_, rfl, ?_⟩))
    exact ⟨rfl, h⟩
  refine ⟨fun hc => ?_, fun hc => ?_⟩
  · have h := h.1 hc
    refine kn_ret (We.conv (we_cNy (⟨_, (le_On (r := (yL zI))), ?_⟩)))
    exact hret _ h _
  · have h := h.2 hc
    refine kn_next ?_
    try dsimp only
    refine kn_seq (kn_asg (i := 3) (we_cb (wa_cons (we_op (we_var rfl (we_cI ?_))))))
    obtain ⟨v16, ev16, h⟩ := h
    refine oy_ixL ev16 (wa_nil ?_)
    obtain ⟨v17, ev17, lv17, h⟩ := h
    refine cy_intS ev17 lv17 ?_
    refine kn_nrm (Γ' := [some (iz yS p_law_text), some (iz yS s1), some (iz (yL yS) parts5), some (iz zI v17), none, none]) rfl ?_
    try dsimp only
    refine kn_cutW (S := Int) (fun s18 => [some (iz yS p_law_text), some (iz yS s1), some (iz (yL yS) parts5), some (iz zI s18), none, none]) (fun s18 => []) h (fun M hjn h => ?_) (fun s18 h => ?_)
    · refine kn_if (wt_test (we_op (we_sl (we_var rfl (wo_none (wo_some (we_cI (⟨_, rfl, sy_slS (we_cSy (z := "-") (asc_of (by decide)) (by decide) (oy_eqS (⟨_, rfl, ⟨fun hc => ?_, fun hc => ?_⟩⟩)))⟩))))))))
      · have h := h.1 hc
        refine kn_seq (kn_if (wt_test (we_op (we_var rfl (we_cI (ops_eqI (⟨_, rfl, ⟨fun hc => ?_, fun hc => ?_⟩⟩)))))))
        · have h := h.1 hc
          refine kn_ret (We.conv (we_cNy (⟨_, (le_On (r := (yL zI))), ?_⟩)))
          exact hret _ h _
        · have h := h.2 hc
          refine kn_next ?_
          try dsimp only
          refine kn_asgL (i := 3) (r := zI) (we_un (we_var rfl (uns_I (⟨_, rfl, fun top20 etop20 => ?_⟩))))
          have h := h top20 etop20
          exact hjn top20 _ _ h (by and_intros) rfl
      · have h := h.2 hc
        refine kn_next ?_
        exact hjn v17 _ _ h (by and_intros) rfl
    try dsimp only
    refine kn_seq (kn_if (wt_test (we_op (we_cb (wa_cons (we_var rfl (wa_nil (cy_len sy_L (fun e21 => (we_cI (ops_eqI (⟨_, rfl, ⟨fun hc => ?_, fun hc => ?_⟩⟩))))))))))))
    · have h := h.1 hc
      refine kn_ret (We.conv (we_lstY (r := zI) (wa_cons (we_var rfl (wa_cons (we_cI (wa_nil (⟨[s18, (1 : Int)], rfl, Nat.le_of_ble_eq_true rfl, ⟨_, le_Os, ?_⟩⟩))))))))
      exact hret _ h _
    · have h := h.2 hc
      refine kn_next ?_
      try dsimp only
      refine kn_seq (kn_asg (i := 4) (we_cb (wa_cons (we_op (we_var rfl (we_cI ?_))))))
      obtain ⟨v22, ev22, h⟩ := h
      refine oy_ixL ev22 (wa_nil ?_)
      obtain ⟨v23, ev23, lv23, h⟩ := h
      refine cy_intS ev23 lv23 ?_
      refine kn_nrm (Γ' := [some (iz yS p_law_text), some (iz yS s1), some (iz (yL yS) parts5), some (iz zI s18), some (iz zI v23), none]) rfl ?_
      try dsimp only
      refine kn_seq (kn_if (wt_orC (wt_test (we_op (we_var rfl (we_cI (ops_B0 (⟨_, rfl, ?_⟩))))))))
      refine orK h (fun h => ?_) (fun c24 h => ?_)
      · refine wt_test (we_op (we_callE (wa_cons (we_var rfl (wa_cons (we_var rfl (wa_nil ?_)))))))
        refine sps_W0 (s18, v23) h (fun v26 h => ?_)
        refine we_cI (ops_neI (⟨_, rfl, ?_⟩))
        exact ⟨rfl, h⟩
      refine ⟨fun hc => ?_, fun hc => ?_⟩
      · have h := h.1 hc
        refine kn_ret (We.conv (we_cNy (⟨_, (le_On (r := (yL zI))), ?_⟩)))
        exact hret _ h _
      · have h := h.2 hc
        refine kn_next ?_
        try dsimp only
        refine kn_ret (We.conv (we_lstY (r := zI) (wa_cons (we_var rfl (wa_cons (we_var rfl (wa_nil (⟨[s18, v23], rfl, Nat.le_of_ble_eq_true rfl, ⟨_, le_Os, ?_⟩⟩))))))))
        exact hret _ h _
abbrev s__law_right : Stmt := topS 22
theorem sc__law_right : FnScope ["_law_text", "_law_due_here", "_law_told"] ["_law_text"] (defScope s__law_right) := ⟨rfl, rfl, rfl, by decide +kernel, rfl, by decide +kernel, by decide +kernel⟩
def m__law_right (p_law_text : Str) : DM Bool := fun Q X =>
  m__law_due p_law_text (fun v1 =>
  m__law_read p_law_text (fun v2 =>
  optD v1 (∃ told4 : (Str × Str), v2 = (some (.inr told4)) ∧
  Q (true && (decide (told4 = (("BadWord" : Str), p_law_text))))) (fun due3 =>
  ∃ told5 : (Int × Int), v2 = (some (.inl told5)) ∧
  ∃ v6, atI due3 (0 : Int) = some v6 ∧
  ∃ v7, atI due3 (1 : Int) = some v7 ∧
  m__law_ratioR told5 v6 v7 (fun v8 =>
  andD v8 (fun k10 => m_Ratio___str__ told5 (fun v11 =>
  k10 (decide (v11 = p_law_text))) noX) (fun c9 =>
  Q c9)) noX)) noX) noX
theorem ok__law_right {k : Nat} {cs : EK → Addr} {C_Ratio : Addr} (B : Bl mg) (D__law_due : Def P w K mg base CX0 (k + 1) "_law_due" ["_law_text"] (spA (preW (erW cs) (fun x : Str => [iz yS x]) (yO (yL zI)) (fun x => m__law_due x)))) (D__law_read : Def P w K mg base CX0 (k + 1) "_law_read" ["_law_text"] (spA (preW (erW cs) (fun x : Str => [iz yS x]) (yO (yU (zRatio C_Ratio) (z2 yS yS))) (fun x => m__law_read x)))) (D__law_ratioR : Def P w K mg base CX0 (k + 1) "_law_ratio" ["_law_told", "_law_top", "_law_bottom"] (spA (preW (erW cs) (fun x : (Int × Int) × Int × Int => [iz (zRatio C_Ratio) x.1, iz zI x.2.1, iz zI x.2.2]) zB (fun x => m__law_ratioR x.1 x.2.1 x.2.2)))) (DMk_Ratio___str__ : DefM P w K mg base CX0 k C_Ratio "__str__" ["self"] (spA (preW (erW cs) (fun x : (Int × Int) => [iz (zRatio C_Ratio) x]) yS (fun x => m_Ratio___str__ x))))
    (F : Src K mg "_law_right" s__law_right ["_law_text"]) : Def P w K mg base CX0 (k + 2) "_law_right" ["_law_text"] (spA (preW (erW cs) (fun x : Str => [iz yS x]) zB (fun x => m__law_right x))) := by
  refine F.okW sc__law_right (fun _ => rfl) (fun f cdv A outer s H E p_law_text Q X hr h => ⟨_, (pss_cons (ps_asg (pe_def D__law_due hr pass0 (pa_cons (pv 0) pa_nil)) (pg_name (i := 1) sc__law_right.nd rfl (Or.inl rfl)))
 (pss_cons (ps_asg (pe_def D__law_read hr pass0 (pa_cons (pv 0) pa_nil)) (pg_name (i := 2) sc__law_right.nd rfl (Or.inl rfl)))
 (pss_cons (ps_if (pt_cmpR op_isN (pv 1) pe_non (nomark _)) (pss_one (ps_ret (pe_and (pe_callB (kcall_isi (K := K)) (by rfl) B.isinstance (by decide +kernel) (pa_cons (pv 2) (pa_cons (pe_bltn (v := .ty "tuple") (by rfl) B.tuple' (by decide +kernel) rfl) pa_nil))) (pe_one (pe_cmpR (kop_eqD (K := K) hr.units) (pv 2) (pe_tup (pa_cons pe_str (pa_cons (pv 0) pa_nil))) (nomark _)))))) pss_nil)
 (pss_one (ps_ret (pe_and (pe_def D__law_ratioR hr pass0 (pa_cons (pv 2) (pa_cons (pe_ix (kix_list (K := K)) (pv 1) pe_int (fun _ _ => rfl)) (pa_cons (pe_ix (kix_list (K := K)) (pv 1) pe_int (fun _ _ => rfl)) pa_nil)))) (pe_one (pe_cmpR op_eq (pe_callTy (call_strO DMk_Ratio___str__ hr passAt0) (by rfl) B.str' (by decide +kernel) (pa_cons (pv 2) pa_nil)) (pv 0) (nomark _))))))))), fun fr Qv hret => ?_⟩)
  replace h : m__law_right p_law_text Q X := h
  unfold m__law_right at h
  refine kn_seq (kn_asg (i := 1) (we_callE (wa_cons (we_var rfl (wa_nil ?_)))))
  refine sps_W0 p_law_text h (fun v1 h => ?_)
  try dsimp only
  refine kn_seq (kn_asg (i := 2) (we_callE (wa_cons (we_var rfl (wa_nil ?_)))))
  refine sps_W0 p_law_text h (fun v2 h => ?_)
  try dsimp only
  refine kn_seq (kn_if (wt_test (we_op (we_var rfl (we_cNy (oy_isO (⟨_, rfl, optK h (fun edue3 h => ?_) (fun due3 edue3 h => ?_)⟩)))))))
  · revert h; (first | subst edue3 | rw [edue3]); intro h
    obtain ⟨told4, etold4, h⟩ := h
    revert h; (first | subst etold4 | rw [etold4]); intro h
    refine kn_ret (we_andP (we_cb (wa_cons (we_var rfl (wa_cons (we_cT (wa_nil (cb_isi ty_2 (show kitB "tuple" "tuple" = some true by decide +kernel) (⟨_, _, rfl, fun _ => we_op (we_var rfl (we_tup (wa_cons (we_cSy (z := "BadWord") (asc_of (by decide)) (by decide) (wa_cons (we_var rfl (wa_nil (⟨Nat.le_of_ble_eq_true rfl, iz (z2 yS yS) (("BadWord" : Str), p_law_text), tr2, ops_eqD (r := (z2 yS yS)) (by decide) (⟨rfl, rfl⟩)⟩)))))))), ?_⟩)))))))))
    exact hret _ h _
  · revert h; (first | subst edue3 | rw [edue3]); intro h
    refine kn_next ?_
    try dsimp only
    obtain ⟨told5, etold5, h⟩ := h
    revert h; (first | subst etold5 | rw [etold5]); intro h
    refine kn_ret (we_andC (we_callE (wa_cons (we_var rfl (wa_cons (we_op (we_var rfl (we_cI ?_))))))))
    obtain ⟨v6, ev6, h⟩ := h
    refine oy_ixL ev6 (wa_cons (we_op (we_var rfl (we_cI ?_))))
    obtain ⟨v7, ev7, h⟩ := h
    refine oy_ixL ev7 (wa_nil ?_)
    refine sps_W0 (told5, v6, v7) h (fun v8 h => ?_)
    refine andKv h (fun h => ?_) (fun c9 h => ?_)
    · refine we_op (we_cb (wa_cons (we_var rfl (wa_nil (cb_sp1 insC_in ?_)))))
      refine sps_W0 told5 h (fun v11 h => ?_)
      refine ⟨rp_S, we_var rfl (oy_eqS ?_)⟩
      exact ⟨rfl, _, rfl, h⟩
    exact hret _ h _
abbrev s__law_bent : Stmt := topS 23
theorem sc__law_bent : FnScope ["_law_bag_here", "_law_text", "_law_at", "_law_sign", "_law_kind"] ["_law_bag_here", "_law_text"] (defScope s__law_bent) := ⟨rfl, rfl, rfl, by decide +kernel, rfl, by decide +kernel, by decide +kernel⟩
def m__law_bent (p_law_text : Str) : DM Str := fun Q X =>
  m_draw (((p_law_text).length : Int) + (1 : Int)) (fun v2 =>
  m_draw (15 : Int) (fun v3 =>
  ∃ v4, atI (("0123456789-/+ a" : Str)).cps.toList v3 = some v4 ∧
  ∀ sign5, sign5 = (⟨#[v4]⟩ : Str) →
  m_draw (3 : Int) (fun v6 =>
  ifD (decide (v6 = (0 : Int))) (
  ((cutS p_law_text none (some v2))).length + ((cutS p_law_text (some (v2 + (1 : Int))) none)).length ≤ big ∧
  Q ((cutS p_law_text none (some v2)) ++ (cutS p_law_text (some (v2 + (1 : Int))) none))) (
  ifD (decide (v6 = (1 : Int))) (
  ((cutS p_law_text none (some v2))).length + (sign5).length ≤ big ∧
  (((cutS p_law_text none (some v2)) ++ sign5)).length + ((cutS p_law_text (some v2) none)).length ≤ big ∧
  Q (((cutS p_law_text none (some v2)) ++ sign5) ++ (cutS p_law_text (some v2) none))) (
  ((cutS p_law_text none (some v2))).length + (sign5).length ≤ big ∧
  (((cutS p_law_text none (some v2)) ++ sign5)).length + ((cutS p_law_text (some (v2 + (1 : Int))) none)).length ≤ big ∧
  Q (((cutS p_law_text none (some v2)) ++ sign5) ++ (cutS p_law_text (some (v2 + (1 : Int))) none))))) noX) noX) noX
theorem ok__law_bent {k : Nat} {cs : EK → Addr} (B : Bl mg) (D__law_draw : Def P w K mg base CX0 k "_law_draw" ["_law_bag_here", "_law_many"] (spC (preK (cBag 4) (preBW (fun x : Int => [iz zI x]) zI m_draw))))
    (F : Src K mg "_law_bent" s__law_bent ["_law_bag_here", "_law_text"]) : Def P w K mg base CX0 (k + 1) "_law_bent" ["_law_bag_here", "_law_text"] (spC (preK (cBag 4) (preBW (fun x : Str => [iz yS x]) yS (fun x => m__law_bent x)))) := by
  refine F.okKW (fun _ _ => rfl) sc__law_bent (fun _ => rfl) (fun f cdv A outer s H E b l p_law_text Q hr h => ⟨_, (pss_cons (ps_asg (pe_def D__law_draw hr pass0 (pa_cons (pv 0) (pa_cons (pe_op op_add (pe_callB call_len_str (by rfl) B.len PySem.boot_len (pa_cons (pv 1) pa_nil)) pe_int) pa_nil))) (pg_name (i := 2) sc__law_bent.nd rfl (Or.inl rfl)))
 (pss_cons (ps_asg (pe_ix ix_str pe_str (pe_def D__law_draw hr pass0 (pa_cons (pv 0) (pa_cons pe_int pa_nil))) (fun _ _ => rfl)) (pg_name (i := 3) sc__law_bent.nd rfl (Or.inl rfl)))
 (pss_cons (ps_asg (pe_def D__law_draw hr pass0 (pa_cons (pv 0) (pa_cons pe_int pa_nil))) (pg_name (i := 4) sc__law_bent.nd rfl (Or.inl rfl)))
 (pss_cons (ps_if (pt_cmpR op_eq (pv 4) pe_int (nomark _)) (pss_one (ps_ret (pe_op op_add_str (pe_slice sl_str (pv 1) po_none (po_some (pv 2))) (pe_slice sl_str (pv 1) (po_some (pe_op op_add (pv 2) pe_int)) po_none)))) pss_nil)
 (pss_cons (ps_if (pt_cmpR op_eq (pv 4) pe_int (nomark _)) (pss_one (ps_ret (pe_op op_add_str (pe_op op_add_str (pe_slice sl_str (pv 1) po_none (po_some (pv 2))) (pv 3)) (pe_slice sl_str (pv 1) (po_some (pv 2)) po_none)))) pss_nil)
 (pss_one (ps_ret (pe_op op_add_str (pe_op op_add_str (pe_slice sl_str (pv 1) po_none (po_some (pv 2))) (pv 3)) (pe_slice sl_str (pv 1) (po_some (pe_op op_add (pv 2) pe_int)) po_none))))))))), fun fr Qv hret => ?_⟩)
  replace h : m__law_bent p_law_text Q noX := h
  unfold m__law_bent at h
  refine kn_seq (kn_asg (i := 2) (we_callE (wa_cons (we_var rfl (wa_cons (we_op (we_cb (wa_cons (we_var rfl (wa_nil (cy_lenS (fun e1 => (we_cI (ops_I0 (wa_nil ?_)))))))))))))))
  refine sps_KW (mk := cBag 4) (j := 0) rfl (((p_law_text).length : Int) + (1 : Int)) h (fun v2 h => ?_)
  refine kn_nrm (Γ' := [some (zAt b), some (iz yS p_law_text), some (iz zI v2), none, none]) rfl ?_
  try dsimp only
  refine kn_seq (kn_asgL (i := 3) (r := yS) (we_op (we_cSy (z := "0123456789-/+ a") (asc_of (by decide)) (by decide) (we_callE (wa_cons (we_var rfl (wa_cons (we_cI (wa_nil ?_)))))))))
  refine sps_KW (mk := cBag 4) (j := 0) rfl (15 : Int) h (fun v3 h => ?_)
  obtain ⟨v4, ev4, h⟩ := h
  refine oy_ixS ev4 (⟨_, rfl, fun sign5 esign5 => ?_⟩)
  have h := h sign5 esign5
  refine kn_nrm (Γ' := [some (zAt b), some (iz yS p_law_text), some (iz zI v2), some (iz yS sign5), none]) rfl ?_
  try dsimp only
  refine kn_seq (kn_asg (i := 4) (we_callE (wa_cons (we_var rfl (wa_cons (we_cI (wa_nil ?_)))))))
  refine sps_KW (mk := cBag 4) (j := 0) rfl (3 : Int) h (fun v6 h => ?_)
  refine kn_nrm (Γ' := [some (zAt b), some (iz yS p_law_text), some (iz zI v2), some (iz yS sign5), some (iz zI v6)]) rfl ?_
  try dsimp only
  refine kn_seq (kn_if (wt_test (we_op (we_var rfl (we_cI (ops_eqI (⟨_, rfl, ⟨fun hc => ?_, fun hc => ?_⟩⟩)))))))
  · have h := h.1 hc
    refine kn_ret (we_op (we_sl (we_var rfl (wo_none (wo_some (we_var rfl (⟨_, rfl, sy_slS (we_sl (we_var rfl (wo_some (we_op (we_var rfl (we_cI (ops_I0 (⟨_, rfl, wo_none (sy_slS ?_)⟩))))))))⟩)))))))
    obtain ⟨g7, h⟩ := h
    refine oy_addS g7 ?_
    exact hret _ h _ (List.mem_of_getElem? (i := 0) rfl)
  · have h := h.2 hc
    refine kn_next ?_
    try dsimp only
    refine kn_seq (kn_if (wt_test (we_op (we_var rfl (we_cI (ops_eqI (⟨_, rfl, ⟨fun hc => ?_, fun hc => ?_⟩⟩)))))))
    · have h := h.1 hc
      refine kn_ret (we_op (we_op (we_sl (we_var rfl (wo_none (wo_some (we_var rfl (⟨_, rfl, sy_slS (we_var rfl ?_)⟩))))))))
      obtain ⟨g8, h⟩ := h
      refine oy_addS g8 (we_sl (we_var rfl (wo_some (we_var rfl (⟨_, rfl, wo_none (sy_slS ?_)⟩)))))
      obtain ⟨g9, h⟩ := h
      refine oy_addS g9 ?_
      exact hret _ h _ (List.mem_of_getElem? (i := 0) rfl)
    · have h := h.2 hc
      refine kn_next ?_
      try dsimp only
      refine kn_ret (we_op (we_op (we_sl (we_var rfl (wo_none (wo_some (we_var rfl (⟨_, rfl, sy_slS (we_var rfl ?_)⟩))))))))
      obtain ⟨g10, h⟩ := h
      refine oy_addS g10 (we_sl (we_var rfl (wo_some (we_op (we_var rfl (we_cI (ops_I0 (⟨_, rfl, wo_none (sy_slS ?_)⟩))))))))
      obtain ⟨g11, h⟩ := h
      refine oy_addS g11 ?_
      exact hret _ h _ (List.mem_of_getElem? (i := 0) rfl)
abbrev s__law_long : Stmt := topS 24
theorem sc__law_long : FnScope ["_law_bag_here", "_law_digit", "_law_text", "_law_kind"] ["_law_bag_here"] (defScope s__law_long) := ⟨rfl, rfl, rfl, by decide +kernel, rfl, by decide +kernel, by decide +kernel⟩
def m__law_long  : DM Str := fun Q X =>
  m_draw (9 : Int) (fun v1 =>
  ∃ v2, atI (("123456789" : Str)).cps.toList v1 = some v2 ∧
  ∀ digit3, digit3 = (⟨#[v2]⟩ : Str) →
  m_draw (5 : Int) (fun v4 =>
  ((-1000 ≤ ((58 : Int) + v4) ∧ ((58 : Int) + v4) ≤ 1000) ∧ (digit3).length ≤ 100) ∧
  ∀ text6, text6 = (Txt.mul digit3 ((58 : Int) + v4)) →
  m_draw (4 : Int) (fun v7 =>
  ifD (decide (v7 = (1 : Int))) (
  (text6).length + (("/7" : Str)).length ≤ big ∧
  Q (text6 ++ ("/7" : Str))) (
  ifD (decide (v7 = (2 : Int))) (
  (("7/" : Str)).length + (text6).length ≤ big ∧
  Q (("7/" : Str) ++ text6)) (
  ifD (decide (v7 = (3 : Int))) (
  (("-" : Str)).length + (text6).length ≤ big ∧
  Q (("-" : Str) ++ text6)) (
  Q text6)))) noX) noX) noX
theorem ok__law_long {k : Nat} {cs : EK → Addr} (B : Bl mg) (D__law_draw : Def P w K mg base CX0 k "_law_draw" ["_law_bag_here", "_law_many"] (spC (preK (cBag 4) (preBW (fun x : Int => [iz zI x]) zI m_draw))))
    (F : Src K mg "_law_long" s__law_long ["_law_bag_here"]) : Def P w K mg base CX0 (k + 1) "_law_long" ["_law_bag_here"] (spC (preK (cBag 4) (preBW (fun x : Unit => []) yS (fun x => m__law_long)))) := by
  refine F.okKW (fun _ _ => rfl) sc__law_long (fun _ => rfl) (fun f cdv A outer s H E b l x Q hr h => ⟨_, (pss_cons (ps_asg (pe_ix ix_str pe_str (pe_def D__law_draw hr pass0 (pa_cons (pv 0) (pa_cons pe_int pa_nil))) (fun _ _ => rfl)) (pg_name (i := 1) sc__law_long.nd rfl (Or.inl rfl)))
 (pss_cons (ps_asg (pe_op op_mulS (pv 1) (pe_op op_add pe_int (pe_def D__law_draw hr pass0 (pa_cons (pv 0) (pa_cons pe_int pa_nil))))) (pg_name (i := 2) sc__law_long.nd rfl (Or.inl rfl)))
 (pss_cons (ps_asg (pe_def D__law_draw hr pass0 (pa_cons (pv 0) (pa_cons pe_int pa_nil))) (pg_name (i := 3) sc__law_long.nd rfl (Or.inl rfl)))
 (pss_cons (ps_if (pt_cmpR op_eq (pv 3) pe_int (nomark _)) (pss_one (ps_ret (pe_op op_add_str (pv 2) pe_str))) pss_nil)
 (pss_cons (ps_if (pt_cmpR op_eq (pv 3) pe_int (nomark _)) (pss_one (ps_ret (pe_op op_add_str pe_str (pv 2)))) pss_nil)
 (pss_cons (ps_if (pt_cmpR op_eq (pv 3) pe_int (nomark _)) (pss_one (ps_ret (pe_op op_add_str pe_str (pv 2)))) pss_nil)
 (pss_one (ps_ret (pv 2))))))))), fun fr Qv hret => ?_⟩)
  replace h : m__law_long Q noX := h
  unfold m__law_long at h
  refine kn_seq (kn_asgL (i := 1) (r := yS) (we_op (we_cSy (z := "123456789") (asc_of (by decide)) (by decide) (we_callE (wa_cons (we_var rfl (wa_cons (we_cI (wa_nil ?_)))))))))
  refine sps_KW (mk := cBag 4) (j := 0) rfl (9 : Int) h (fun v1 h => ?_)
  obtain ⟨v2, ev2, h⟩ := h
  refine oy_ixS ev2 (⟨_, rfl, fun digit3 edigit3 => ?_⟩)
  have h := h digit3 edigit3
  try dsimp only
  refine kn_seq (kn_asgL (i := 2) (r := yS) (we_op (we_var rfl (we_op (we_cI (we_callE (wa_cons (we_var rfl (wa_cons (we_cI (wa_nil ?_)))))))))))
  refine sps_KW (mk := cBag 4) (j := 0) rfl (5 : Int) h (fun v4 h => ?_)
  refine ops_I0 ?_
  obtain ⟨g5, h⟩ := h
  refine oy_mulS g5.1.1 g5.1.2 g5.2 (⟨_, rfl, fun text6 etext6 => ?_⟩)
  have h := h text6 etext6
  try dsimp only
  refine kn_seq (kn_asg (i := 3) (we_callE (wa_cons (we_var rfl (wa_cons (we_cI (wa_nil ?_)))))))
  refine sps_KW (mk := cBag 4) (j := 0) rfl (4 : Int) h (fun v7 h => ?_)
  try dsimp only
  refine kn_seq (kn_if (wt_test (we_op (we_var rfl (we_cI (ops_eqI (⟨_, rfl, ⟨fun hc => ?_, fun hc => ?_⟩⟩)))))))
  · have h := h.1 hc
    refine kn_ret (we_op (we_var rfl (we_cSy (z := "/7") (asc_of (by decide)) (by decide) ?_)))
    obtain ⟨g8, h⟩ := h
    refine oy_addS g8 ?_
    exact hret _ h _ (List.mem_of_getElem? (i := 0) rfl)
  · have h := h.2 hc
    refine kn_next ?_
    try dsimp only
    refine kn_seq (kn_if (wt_test (we_op (we_var rfl (we_cI (ops_eqI (⟨_, rfl, ⟨fun hc => ?_, fun hc => ?_⟩⟩)))))))
    · have h := h.1 hc
      refine kn_ret (we_op (we_cSy (z := "7/") (asc_of (by decide)) (by decide) (we_var rfl ?_)))
      obtain ⟨g9, h⟩ := h
      refine oy_addS g9 ?_
      exact hret _ h _ (List.mem_of_getElem? (i := 0) rfl)
    · have h := h.2 hc
      refine kn_next ?_
      try dsimp only
      refine kn_seq (kn_if (wt_test (we_op (we_var rfl (we_cI (ops_eqI (⟨_, rfl, ⟨fun hc => ?_, fun hc => ?_⟩⟩)))))))
      · have h := h.1 hc
        refine kn_ret (we_op (we_cSy (z := "-") (asc_of (by decide)) (by decide) (we_var rfl ?_)))
        obtain ⟨g10, h⟩ := h
        refine oy_addS g10 ?_
        exact hret _ h _ (List.mem_of_getElem? (i := 0) rfl)
      · have h := h.2 hc
        refine kn_next ?_
        try dsimp only
        refine kn_ret (we_var rfl ?_)
        exact hret _ h _ (List.mem_of_getElem? (i := 0) rfl)
end
def spLaw (K : PySem.W.Frag) : Sp := fun vs H Q _ => ∃ (a : Addr) (ns : List Int), vs = [.ref a] ∧ SqL K H a (ns.map V.int) ∧ ns.length ≤ 63 ∧ ∀ H', Q (.bl true) H'
section
variable {P : Program} {w : World} {K : PySem.W.Frag} {mg : Str → Option Value} {base : Heap}
abbrev s_law : Stmt := topS 25
theorem sc_law : FnScope ["_law_script", "_law_bag_here", "_law_k", "_law_top", "_law_bottom", "_law_text", "_law_free", "_law_j"] ["_law_script"] (defScope s_law) := ⟨rfl, rfl, rfl, by decide +kernel, rfl, by decide +kernel, by decide +kernel⟩
def m_law  : DM Bool := fun Q X =>
  forD (intsF 0 ((6 : Int)).toNat) () (fun x2 s1 nx bk =>
  m__law_number  (fun v3 =>
  m__law_number  (fun v4 =>
  joinD (fun j6 =>
  ifD (decide (v4 = (0 : Int))) (
  j6 (1 : Int)) (
  j6 v4)) (fun s5 : Int =>
  m_Ratio___init__ v3 s5 (fun v7 =>
  m_Ratio___str__ v7 (fun v8 =>
  m__law_read v8 (fun v9 =>
  m__law_ratioU v9 v3 s5 (fun v10 =>
  ifD (!v10) (
  Q false) (
  m__law_bent v8 (fun v11 =>
  m__law_right v11 (fun v12 =>
  ifD (!v12) (
  Q false) (
  m_draw (8 : Int) (fun v16 =>
  (-100000 ≤ v16 ∧ v16 ≤ 100000) ∧
  mapD (intsF 0 (v16).toNat) [] (fun x13 k14 =>
  m_draw (15 : Int) (fun v19 =>
  ∃ v20, atI (("0123456789-/+ a" : Str)).cps.toList v19 = some v20 ∧
  k14 (⟨#[v20]⟩ : Str)) noX) (fun ys15 =>
  ((ys15).map (·.length)).sum + (ys15).length * (("" : Str)).length ≤ big ∧
  ∀ free22, free22 = (Txt.join ("" : Str) ys15) →
  m__law_right free22 (fun v23 =>
  orD (!v23) (fun k25 => m__law_long  (fun v26 =>
  m__law_right v26 (fun v27 =>
  k25 (!v27)) noX) noX) (fun c24 =>
  ifD c24 (
  Q false) (
  nx ()))) noX)) noX)) noX) noX)) noX) noX) noX) noX)) noX) noX) (fun s1 =>
  Q true)
theorem ok_law {k : Nat} {cs : EK → Addr} {C_Ratio : Addr} (B : Bl mg) (D__law_number : Def P w K mg base CX0 (k + 1) "_law_number" ["_law_bag_here"] (spC (preK (cBag 4) (preBW (fun x : Unit => []) zI (fun x => m__law_number))))) (D__law_ratioU : Def P w K mg base CX0 (k + 1) "_law_ratio" ["_law_told", "_law_top", "_law_bottom"] (spA (preW (erW cs) (fun x : (Option ((Int × Int) ⊕ (Str × Str))) × Int × Int => [iz (yO (yU (zRatio C_Ratio) (z2 yS yS))) x.1, iz zI x.2.1, iz zI x.2.2]) zB (fun x => m__law_ratioU x.1 x.2.1 x.2.2)))) (D__law_read : Def P w K mg base CX0 (k + 1) "_law_read" ["_law_text"] (spA (preW (erW cs) (fun x : Str => [iz yS x]) (yO (yU (zRatio C_Ratio) (z2 yS yS))) (fun x => m__law_read x)))) (D__law_right : Def P w K mg base CX0 (k + 1) "_law_right" ["_law_text"] (spA (preW (erW cs) (fun x : Str => [iz yS x]) zB (fun x => m__law_right x)))) (D__law_bent : Def P w K mg base CX0 (k + 1) "_law_bent" ["_law_bag_here", "_law_text"] (spC (preK (cBag 4) (preBW (fun x : Str => [iz yS x]) yS (fun x => m__law_bent x))))) (D__law_draw : Def P w K mg base CX0 (k + 1) "_law_draw" ["_law_bag_here", "_law_many"] (spC (preK (cBag 4) (preBW (fun x : Int => [iz zI x]) zI m_draw)))) (D__law_long : Def P w K mg base CX0 (k + 1) "_law_long" ["_law_bag_here"] (spC (preK (cBag 4) (preBW (fun x : Unit => []) yS (fun x => m__law_long))))) (m_Ratio : mg "Ratio" = some (.ref C_Ratio)) (DI_Ratio : DefI P w K mg base (L2.CX P w) k C_Ratio ["self", "top", "bottom"] (spI C_Ratio (preW (erW cs) (fun x : Int × Int => [iz zI x.1, iz zI x.2]) (zRatio C_Ratio) (fun x => m_Ratio___init__ x.1 x.2)))) (DMk_Ratio___str__ : DefM P w K mg base CX0 k C_Ratio "__str__" ["self"] (spA (preW (erW cs) (fun x : (Int × Int) => [iz (zRatio C_Ratio) x]) yS (fun x => m_Ratio___str__ x)))) (D__law_bag : Def P w K mg base CX0 (k + 1) "_law_bag" ["_law_script"] (spN (preBag K 4)))
    {f : Addr} {fd : FuncData} (F : Fun K "law" "law" s_law f fd) (hm : m_law (· = true) noX) : FnOk P w K mg base CX0 (k + 2) f fd ["_law_script"] (spLaw K) := by
  refine F.ok sc_law (fun vs H Q E h => ?_) (fun cdv A outer s H vs Q E hr h => ?_)
  · obtain ⟨a, ns, rfl, _⟩ := h
    rfl
  obtain ⟨a, ns, rfl, hS, hlen, q⟩ := h
  refine ⟨_, (pss_cons (ps_asg (pe_def D__law_bag hr pass0 (pa_cons (pv 0) pa_nil)) (pg_name (i := 1) sc_law.nd rfl (Or.inr rfl)))
 (pss_cons (ps_for PassesOwn.never rfl (pi_range1 (by rfl) B.range (pa_cons pe_int pa_nil)) (pg_name (i := 2) sc_law.nd rfl (Or.inl rfl)) (pss_cons (ps_asg (pe_def D__law_number hr pass0 (pa_cons (pv 1) pa_nil)) (pg_name (i := 3) sc_law.nd rfl (Or.inl rfl)))
 (pss_cons (ps_asg (pe_def D__law_number hr pass0 (pa_cons (pv 1) pa_nil)) (pg_name (i := 4) sc_law.nd rfl (Or.inl rfl)))
 (C8.pss_cut (ps_if (pt_cmpR op_eq (pv 4) pe_int (nomark _)) (pss_one (ps_asg pe_int (pg_name (i := 4) sc_law.nd rfl (Or.inl rfl)))) pss_nil)
 (pss_cons (ps_asg (pe_callTy (call_strO DMk_Ratio___str__ hr passAt0) (by rfl) B.str' (by decide +kernel) (pa_cons (pe_mkD DI_Ratio m_Ratio hr (fun σ => Passes.at passL σ) (pa_cons (pv 3) (pa_cons (pv 4) pa_nil))) pa_nil)) (pg_name (i := 5) sc_law.nd rfl (Or.inl rfl)))
 (pss_cons (ps_if (pt_not (pt_val (pe_def D__law_ratioU hr pass0 (pa_cons (pe_def D__law_read hr pass0 (pa_cons (pv 5) pa_nil)) (pa_cons (pv 3) (pa_cons (pv 4) pa_nil)))))) (pss_one (ps_ret pe_bl)) pss_nil)
 (pss_cons (ps_if (pt_not (pt_val (pe_def D__law_right hr pass0 (pa_cons (pe_def D__law_bent hr pass0 (pa_cons (pv 1) (pa_cons (pv 5) pa_nil))) pa_nil)))) (pss_one (ps_ret pe_bl)) pss_nil)
 (pss_cons (ps_asg (pe_bm PySem.F.plainAttrs_str PySem.F.slot_str_join PySem.F.type_str_join mt_join pe_str (pa_cons (pe_lc (own := [("_law_j", 7)]) (g := gName 7) (by rfl) sc_law.nd (pi_range1 (by rfl) B.range (pa_cons (pe_def D__law_draw hr pass0 (pa_cons (pv 1) (pa_cons pe_int pa_nil))) pa_nil)) (blkOk_by (N := ["_law_script", "_law_bag_here", "_law_k", "_law_top", "_law_bottom", "_law_text", "_law_free", "_law_j"]) (sc := defScope s_law) (by decide +kernel)) (fun _ _ _ _ _ => (pg_name (i := 7) sc_law.nd rfl (Or.inl rfl))) (fun _ _ _ _ _ => pts_nil) (fun _ _ _ _ _ => (pe_ix ix_str pe_str (pe_def D__law_draw hr pass0 (pa_cons (pv 1) (pa_cons pe_int pa_nil))) (fun _ _ => rfl)))) pa_nil)) (pg_name (i := 6) sc_law.nd rfl (Or.inl rfl)))
 (pss_one (ps_if (PW.pt (pw_or (pt_not (pt_val (pe_def D__law_right hr pass0 (pa_cons (pv 6) pa_nil)))) (pw_or1 (pt_not (pt_val (pe_def D__law_right hr pass0 (pa_cons (pe_def D__law_long hr pass0 (pa_cons (pv 1) pa_nil)) pa_nil))))))) (pss_one (ps_ret pe_bl)) pss_nil))))))))))
 (pss_one (ps_ret pe_bl)))), ?_⟩
  have hret : ∀ {fr : L2.Fr} {Θ : List Cel} (c : Bool), c = true → Rt fr Θ Q (iz zB c) := fun {fr Θ} c hc v F' H' ok hv => by
    subst hc
    have hv : v = .bl true := hv
    subst hv
    exact q H'
  refine (?_ : ∀ fr, Kn fr (L2.envOf _ [iz (zScr K) ns]) [] _) ⟨H, H, []⟩ _ H H (OkF.start (Same.refl H)) (env_start (.cons ⟨a, rfl, hS, hlen⟩ .nil))
  intro fr
  refine kn_seq (kn_asg (we_callE (wa_cons (we_var rfl (wa_nil ?_)))))
  refine sps_N ⟨ns, rfl, rfl, rfl⟩ (fun p Θn ⟨b, l, e1, e2⟩ => ?_) (fun e he => he.elim)
  subst e1 e2
  try dsimp only
  have h := hm
  unfold m_law at h
  refine kn_seq (kn_forW (r := zI) (S := Unit) (fun s1 => [none, some (zAt b), none, none, none, none, none, none]) (fun s1 => [cBag 4 b l]) () (wi_range (wa_cons (we_cI (wa_nil (⟨_, rfl, (by have hb : big = 100000 := rfl; omega), (by have hb : big = 100000 := rfl; omega), ⟨_, _, _, _, _, rfl, rfl, (by and_intros), fun _ _ => tg_name, h, fun fr' le x2 s1 nx M hnx hbk h => ?_, fun s1 h => ?_⟩⟩))))))
  · refine kn_seq (kn_asg (i := 3) (we_callE (wa_cons (we_var rfl (wa_nil ?_)))))
    refine sps_KW (mk := cBag 4) (j := 0) rfl () h (fun v3 h => ?_)
    try dsimp only
    refine kn_seq (kn_asg (i := 4) (we_callE (wa_cons (we_var rfl (wa_nil ?_)))))
    refine sps_KW (mk := cBag 4) (j := 0) rfl () h (fun v4 h => ?_)
    try dsimp only
    refine kn_cutW (S := Int) (fun s5 => [none, some (zAt b), some (iz zI x2), some (iz zI v3), some (iz zI s5), none, none, none]) (fun s5 => [cBag 4 b l]) h (fun M hjn h => ?_) (fun s5 h => ?_)
    · refine kn_if (wt_test (we_op (we_var rfl (we_cI (ops_eqI (⟨_, rfl, ⟨fun hc => ?_, fun hc => ?_⟩⟩))))))
      · have h := h.1 hc
        refine kn_asg (i := 4) (we_cI ?_)
        exact hjn (1 : Int) _ _ h (by and_intros) rfl
      · have h := h.2 hc
        refine kn_next ?_
        exact hjn v4 _ _ h (by and_intros) rfl
    try dsimp only
    refine kn_seq (kn_asg (i := 5) (we_cb (wa_cons (we_mkP (wa_cons (we_var rfl (wa_cons (we_var rfl (wa_nil ?_)))))))))
    refine mkW0 (v3, s5) h (fun v7 h => ?_)
    refine wa_nil (cb_sp1 insC_in ?_)
    refine sps_W0 v7 h (fun v8 h => ?_)
    refine ⟨rp_S, ?_⟩
    try dsimp only
    refine kn_seq (kn_if (wt_not (wt_b (we_callE (wa_cons (We.conv (we_callE (wa_cons (we_var rfl (wa_nil ?_))))))))))
    refine sps_W0 v8 h (fun v9 h => ?_)
    refine ⟨_, Vp.Le.refl _, wa_cons (we_var rfl (wa_cons (we_var rfl (wa_nil ?_))))⟩
    refine sps_W0 (v9, v3, s5) h (fun v10 h => ?_)
    refine ⟨_, rfl, ⟨fun hc => ?_, fun hc => ?_⟩⟩
    · have h := h.1 hc
      refine kn_ret (we_cB ?_)
      exact hret _ h
    · have h := h.2 hc
      refine kn_next ?_
      try dsimp only
      refine kn_seq (kn_if (wt_not (wt_b (we_callE (wa_cons (we_callE (wa_cons (we_var rfl (wa_cons (we_var rfl (wa_nil ?_)))))))))))
      refine sps_KW (mk := cBag 4) (j := 0) rfl v8 h (fun v11 h => ?_)
      refine wa_nil ?_
      refine sps_W0 v11 h (fun v12 h => ?_)
      refine ⟨_, rfl, ⟨fun hc => ?_, fun hc => ?_⟩⟩
      · have h := h.1 hc
        refine kn_ret (we_cB ?_)
        exact hret _ h
      · have h := h.2 hc
        refine kn_next ?_
        try dsimp only
        refine kn_seq (kn_asgL (i := 6) (r := yS) (we_bm (we_cSy (z := "") (asc_of (by decide)) (by decide) (⟨tyl_yS, wa_cons (we_lcM (r := zI) (s := yS) (wi_range (wa_cons (we_callE (wa_cons (we_var rfl (wa_cons (we_cI (wa_nil ?_)))))))))⟩))))
        refine sps_KW (mk := cBag 4) (j := 0) rfl (8 : Int) h (fun v16 h => ?_)
        refine wa_nil ?_
        obtain ⟨g17, h⟩ := h
        refine ⟨_, rfl, (by have hb : big = 100000 := rfl; omega), (by have hb : big = 100000 := rfl; omega), ⟨_, _, _, _, rfl, rfl, (intsF_big (by have hb : big = 100000 := rfl; omega)), fun _ => tg_name, h, fun x13 c k14 h => ?_, fun ys15 h eys15 => ?_⟩⟩
        · refine we_op (we_cSy (z := "0123456789-/+ a") (asc_of (by decide)) (by decide) (we_callE (wa_cons (we_var rfl (wa_cons (we_cI (wa_nil ?_)))))))
          refine sps_KW (mk := cBag 4) (j := 1) rfl (15 : Int) h (fun v19 h => ?_)
          obtain ⟨v20, ev20, h⟩ := h
          refine oy_ixS ev20 ?_
          exact ⟨rfl, _, rfl, h⟩
        refine wa_nil ?_
        obtain ⟨g21, h⟩ := h
        refine my_join g21 (⟨_, rfl, fun free22 efree22 => ?_⟩)
        have h := h free22 efree22
        try dsimp only
        refine kn_if (wt_orC (wt_not (wt_b (we_callE (wa_cons (we_var rfl (wa_nil ?_)))))))
        refine sps_W0 free22 h (fun v23 h => ?_)
        refine ⟨_, rfl, ?_⟩
        refine orK h (fun h => ?_) (fun c24 h => ?_)
        · refine wt_not (wt_b (we_callE (wa_cons (we_callE (wa_cons (we_var rfl (wa_nil ?_)))))))
          refine sps_KW (mk := cBag 4) (j := 0) rfl () h (fun v26 h => ?_)
          refine wa_nil ?_
          refine sps_W0 v26 h (fun v27 h => ?_)
          refine ⟨_, rfl, ?_⟩
          exact ⟨rfl, h⟩
        refine ⟨fun hc => ?_, fun hc => ?_⟩
        · have h := h.1 hc
          refine kn_ret (we_cB ?_)
          exact hret _ h
        · have h := h.2 hc
          refine kn_next ?_
          exact hnx () _ _ h (by and_intros) rfl
  try dsimp only
  refine kn_ret (we_cB ?_)
  exact hret _ h
end
section
theorem draw_ok {m : Int} {Q : Int → Prop} {X : HE → Prop} (h0 : 0 < m) (h1 : m ≤ 10 ^ 40) (h : ∀ n : Nat, (n : Int) < m → Q n) : m_draw m Q X := ⟨h0, h1, fun n n0 n1 => by
  obtain ⟨j, rfl⟩ : ∃ j : Nat, n = j := ⟨n.toNat, by omega⟩
  exact h j n1⟩
theorem cps_app (a b : Str) : (a ++ b).cps.toList = a.cps.toList ++ b.cps.toList := by
  show (a.cps ++ b.cps : Array Nat).toList = _
  simp
end
section
theorem joinI {S : Type} {f : (S → Prop) → Prop} {k : S → Prop} (h : f k) : joinD f k := h
theorem tryI {hd : HE → Prop} {f : (HE → Prop) → Prop} (h : f hd) : tryD hd f := h
theorem empty_app (z : Str) : Str.empty ++ z = z := by
  have h : (Str.empty ++ z).cps.toList = z.cps.toList := by rw [cps_app]; rfl
  cases z
  rw [show (Str.empty ++ _ : Str) = ⟨(Str.empty ++ _ : Str).cps⟩ from rfl]
  rw [Array.toList_inj.mp h]
theorem sum_le {l : List Str} {m : Nat} (h : ∀ y ∈ l, y.length ≤ m) : (l.map (·.length)).sum ≤ m * l.length := by
  induction l with
  | nil => exact Nat.le_refl _
  | cons y l ih =>
    have h1 := h y (List.mem_cons_self ..)
    have h2 := ih fun z hz => h z (List.mem_cons_of_mem _ hz)
    rw [List.map_cons, List.sum_cons, List.length_cons, Nat.mul_add]
    omega
end
section
theorem absI (a : Int) : (if a < 0 then -a else a) = (a.natAbs : Int) := by split <;> omega
theorem fmodN (m n : Nat) : Int.fmod (m : Int) (n : Int) = ((m % n : Nat) : Int) := by
  rw [Int.fmod_eq_emod_of_nonneg _ (Int.natCast_nonneg n)]
  exact (Int.natCast_emod m n).symm
theorem common_ok {a b : Int} {Q : Int → Prop} {X : HE → Prop} (h : Q (Int.gcd a b)) : m_common_divisor a b Q X := by
  unfold m_common_divisor
  rw [absI, absI]
  refine whileD_inv (fun s => ∃ m n : Nat, s = ((m : Int), (n : Int)) ∧ Nat.gcd m n = Int.gcd a b) (fun s => s.2.toNat) ⟨a.natAbs, b.natAbs, rfl, rfl⟩ ?_
  rintro s nx ⟨m, n, rfl, hg⟩ hnx
  by_cases hn : n = 0
  · subst hn
    refine ifD_f rfl ?_
    rw [Nat.gcd_zero_right] at hg
    show Q (m : Int)
    rw [hg]
    exact h
  · refine ifD_t (by simpa using hn) ⟨by show (n : Int) ≠ 0; omega, hnx _ ⟨n, m % n, by rw [← fmodN], ?_⟩ ?_⟩
    · rw [← hg, Nat.gcd_comm m n, Nat.gcd_rec n m, Nat.gcd_comm]
    · show (Int.fmod (m : Int) (n : Int)).toNat < ((n : Int)).toNat
      rw [fmodN]
      have := Nat.mod_lt m (Nat.pos_of_ne_zero hn)
      omega
theorem half_mod {n r : Nat} (hr : r < n) (h0 : 0 < r) : 2 * (n % r) < n := by
  have h1 := Nat.mod_lt n h0
  have h2 := Nat.div_add_mod n r
  have h3 : 1 ≤ n / r := (Nat.one_le_div_iff h0).mpr (Nat.le_of_lt hr)
  have h4 : r * 1 ≤ r * (n / r) := Nat.mul_le_mul_left r h3
  omega
theorem euclid {Q : Int → Prop} {body : Int → Int × Int → (Int × Int → Prop) → (Int × Int → Prop) → Prop} {bk : Int × Int → Prop} (hbk : ∀ s, Q s.1 → bk s)
    (hb : ∀ x s nx, (s.2 = 0 → Q s.1) → (s.2 ≠ 0 → nx (s.2, Int.fmod s.1 s.2)) → body x s nx bk) : ∀ (j : Nat) (xs : List Int) (m n : Nat), n < 2 ^ j → 2 * j ≤ xs.length → Q (Nat.gcd m n) → forD xs ((m : Int), (n : Int)) body bk
  | 0, xs, m, n, hn, hl, h => by
    have hn : n = 0 := by omega
    subst hn
    rw [Nat.gcd_zero_right] at h
    cases xs with
    | nil => exact hbk _ h
    | cons x xs => exact hb x _ _ (fun _ => h) fun e => absurd rfl e
  | j + 1, [], m, n, hn, hl, h => absurd hl (by simp)
  | j + 1, [x], m, n, hn, hl, h => absurd hl (by show ¬ 2 * (j + 1) ≤ 1; omega)
  | j + 1, x :: y :: xs, m, n, hn, hl, h => by
    by_cases h0 : n = 0
    · subst h0
      rw [Nat.gcd_zero_right] at h
      exact hb x _ _ (fun _ => h) fun e => absurd rfl e
    · refine hb x _ _ (fun e => absurd (Int.natCast_eq_zero.mp e) h0) fun _ => ?_
      show forD (y :: xs) ((n : Int), Int.fmod (m : Int) (n : Int)) body bk
      rw [fmodN]
      have hr := Nat.mod_lt m (Nat.pos_of_ne_zero h0)
      have e1 : Nat.gcd n (m % n) = Nat.gcd m n := by rw [Nat.gcd_comm m n, Nat.gcd_rec n m, Nat.gcd_comm]
      by_cases h1 : m % n = 0
      · rw [h1]
        rw [h1, Nat.gcd_zero_right] at e1
        exact hb y _ _ (fun _ => by show Q (n : Int); rw [e1]; exact h) fun e => absurd rfl e
      · refine hb y _ _ (fun e => absurd (Int.natCast_eq_zero.mp e) h1) fun _ => ?_
        show forD xs (((m % n : Nat) : Int), Int.fmod (n : Int) ((m % n : Nat) : Int)) body bk
        rw [fmodN]
        refine euclid hbk hb j xs _ _ ?_ (by simp only [List.length_cons] at hl; omega) ?_
        · have := half_mod hr (Nat.pos_of_ne_zero h1)
          rw [Nat.pow_succ] at hn
          omega
        · have e2 : Nat.gcd (m % n) (n % (m % n)) = Nat.gcd n (m % n) := by rw [Nat.gcd_comm n, Nat.gcd_rec (m % n) n, Nat.gcd_comm]
          rw [e2, e1]
          exact h
/-- no number here has more than 800 bits -/
def Sm (a : Int) : Prop := a.natAbs < 2 ^ 800
theorem intsF_len (a : Int) : ∀ n : Nat, (intsF a n).length = n := fun n => by simp [intsF]
theorem divisor_ok {a b : Int} {Q : Int → Prop} {X : HE → Prop} (hb : Sm b) (h : Q (Int.gcd a b)) : m__law_divisor a b Q X := by
  unfold m__law_divisor
  intro large e1 small e2
  subst e1 e2
  rw [absI, absI]
  refine euclid (Q := Q) (fun s hs => hs) (fun x s nx h1 h2 => ?_) 800 _ _ _ hb (by rw [intsF_len]; decide) h
  by_cases h0 : s.2 = 0
  · exact ifD_t (by simpa using h0) (h1 h0)
  · refine ifD_f (by simpa using h0) ⟨h0, fun r er => ?_⟩
    subst er
    exact h2 h0
theorem sm_log {a : Int} (h : Sm a) : a.natAbs.log2 < 9000 := by
  by_cases h0 : a.natAbs = 0
  · rw [h0]; decide
  · exact Nat.lt_of_lt_of_le ((Nat.log2_lt h0).mpr h) (by decide)
theorem sm_log8 {a : Int} (h : Sm a) : a.natAbs.log2 < 800 := by
  by_cases h0 : a.natAbs = 0
  · rw [h0]; decide
  · exact (Nat.log2_lt h0).mpr h
theorem sm_mul {a b : Int} (ha : Sm a) (hb : Sm b) : CMulW a b := by
  have := sm_log8 ha
  have := sm_log8 hb
  unfold CMulW
  omega
/-- the divisor with the bottom's sign -/
def sgd (t b : Int) : Int := if b < 0 then -(Int.gcd t b : Int) else Int.gcd t b
def ratD (t b : Int) : Int × Int := (t.fdiv (sgd t b), b.fdiv (sgd t b))
theorem sgd_ne {t b : Int} (h : b ≠ 0) : sgd t b ≠ 0 := by
  have : Int.gcd t b ≠ 0 := fun e => h (Int.gcd_eq_zero_iff.mp e).2
  unfold sgd
  split <;> omega
theorem sgd_abs (t b : Int) : (sgd t b).natAbs = Int.gcd t b := by
  unfold sgd
  split <;> omega
theorem sgd_sm {t b : Int} (h : b ≠ 0) (hb : Sm b) : Sm (sgd t b) := by
  unfold Sm
  rw [sgd_abs]
  exact Nat.lt_of_le_of_lt (Nat.le_of_dvd (by omega) (Int.gcd_dvd_natAbs_right t b)) hb
theorem sgd_dl (t b : Int) : sgd t b ∣ t := by
  unfold sgd
  split
  · exact (Int.neg_dvd).mpr (Int.gcd_dvd_left t b)
  · exact Int.gcd_dvd_left t b
theorem sgd_dr (t b : Int) : sgd t b ∣ b := by
  unfold sgd
  split
  · exact (Int.neg_dvd).mpr (Int.gcd_dvd_right t b)
  · exact Int.gcd_dvd_right t b
theorem rat_ok {t b : Int} {Q : Int × Int → Prop} {X : HE → Prop} (h0 : b ≠ 0) (hb : Sm b) (h : Q (ratD t b)) : m_Ratio___init__ t b Q X := by
  unfold m_Ratio___init__
  refine ifD_f (by simpa using h0) (common_ok ?_)
  have hd : ∀ s2, s2 = sgd t b → CDivZ t s2 ∧ CDivZ b s2 ∧ Q (Int.fdiv t s2, Int.fdiv b s2) := fun s2 e => by
    subst e
    exact ⟨⟨sgd_ne h0, sm_log (sgd_sm h0 hb)⟩, ⟨sgd_ne h0, sm_log (sgd_sm h0 hb)⟩, h⟩
  by_cases hn : b < 0
  · refine joinI (ifD_t (by simpa using hn) fun d e => hd d ?_)
    rw [e]; unfold sgd; rw [if_pos hn]
  · refine joinI (ifD_f (by simpa using hn) (hd _ ?_))
    unfold sgd; rw [if_neg hn]
/-- in lowest terms -/
def Low (p : Int × Int) : Prop := 1 ≤ p.2 ∧ Int.gcd p.1 p.2 = 1
theorem rat_eq1 {t b : Int} (h : b ≠ 0) : t = (ratD t b).1 * sgd t b := by
  show t = t.fdiv (sgd t b) * sgd t b
  rw [Int.fdiv_eq_ediv_of_dvd (sgd_dl t b)]
  exact (Int.ediv_mul_cancel (sgd_dl t b)).symm
theorem rat_eq2 {t b : Int} (h : b ≠ 0) : b = (ratD t b).2 * sgd t b := by
  show b = b.fdiv (sgd t b) * sgd t b
  rw [Int.fdiv_eq_ediv_of_dvd (sgd_dr t b)]
  exact (Int.ediv_mul_cancel (sgd_dr t b)).symm
theorem rat_low {t b : Int} (h : b ≠ 0) : Low (ratD t b) := by
  have e1 := rat_eq1 (t := t) h
  have e2 := rat_eq2 (t := t) h
  have hn := sgd_ne (t := t) h
  have hg := sgd_abs t b
  constructor
  · have hp : 0 < (ratD t b).2 := by
      unfold sgd at e2 hn
      by_cases hb : b < 0
      · rw [if_pos hb] at e2 hn
        rcases Int.lt_trichotomy (ratD t b).2 0 with hc | hc | hc
        · have := Int.mul_nonneg_of_nonpos_of_nonpos (Int.le_of_lt hc) (show -(Int.gcd t b : Int) ≤ 0 by omega)
          omega
        · rw [hc] at e2; omega
        · exact hc
      · rw [if_neg hb] at e2 hn
        rcases Int.lt_trichotomy (ratD t b).2 0 with hc | hc | hc
        · have := Int.mul_nonpos_of_nonpos_of_nonneg (Int.le_of_lt hc) (show 0 ≤ (Int.gcd t b : Int) by omega)
          omega
        · rw [hc] at e2; omega
        · exact hc
    omega
  · have e3 : Int.gcd t b = Int.gcd (ratD t b).1 (ratD t b).2 * (sgd t b).natAbs := by
      have z := Int.gcd_mul_right (ratD t b).1 (sgd t b) (ratD t b).2
      rw [← e1, ← e2] at z
      exact z
    rw [hg] at e3
    have h0 : 0 < Int.gcd t b := by omega
    exact Nat.eq_of_mul_eq_mul_right h0 (by omega)
theorem rat_val {t b : Int} (h : b ≠ 0) : (ratD t b).1 * b = t * (ratD t b).2 := by
  have e1 := rat_eq1 (t := t) h
  have e2 := rat_eq2 (t := t) h
  calc (ratD t b).1 * b = (ratD t b).1 * ((ratD t b).2 * sgd t b) := by rw [← e2]
    _ = ((ratD t b).1 * sgd t b) * (ratD t b).2 := by rw [Int.mul_comm (ratD t b).2, Int.mul_assoc]
    _ = t * (ratD t b).2 := by rw [← e1]
end
section
theorem abs_le_mul {a d : Int} (h : d ≠ 0) : a.natAbs ≤ (a * d).natAbs := by
  rw [Int.natAbs_mul]
  exact Nat.le_mul_of_pos_right _ (by omega)
theorem rat_sn1 {t b : Int} {n : Nat} (h : b ≠ 0) (ht : t.natAbs ≤ n) : (ratD t b).1.natAbs ≤ n := by
  have e := rat_eq1 (t := t) h
  have := abs_le_mul (a := (ratD t b).1) (sgd_ne (t := t) h)
  rw [← e] at this
  omega
theorem rat_sn2 {t b : Int} {n : Nat} (h : b ≠ 0) (ht : b.natAbs ≤ n) : (ratD t b).2.natAbs ≤ n := by
  have e := rat_eq2 (t := t) h
  have := abs_le_mul (a := (ratD t b).2) (sgd_ne (t := t) h)
  rw [← e] at this
  omega
end
section
theorem len_app (a b : Str) : (a ++ b).length = a.length + b.length := by
  show (a.cps ++ b.cps : Array Nat).size = _
  exact Array.size_append
theorem number_ok {Q : Int → Prop} {X : HE → Prop} (h : ∀ n : Int, n.natAbs ≤ 10 ^ 18 → Q n) : m__law_number Q X := by
  have last : ∀ s6 : Int, s6.natAbs ≤ 10 ^ 18 → joinD (fun j15 => m_draw (2 : Int) (fun v16 => ifD (decide (v16 = (1 : Int))) (∀ number17, number17 = (-s6) → j15 number17) (j15 s6)) noX) (fun s14 : Int => Q s14) := fun s6 h6 => by
    refine joinI (draw_ok (by decide) (by decide) fun n hn => ⟨fun _ z e => h z (by rw [e, Int.natAbs_neg]; exact h6), fun _ => h _ h6⟩)
  unfold m__law_number
  refine draw_ok (by decide) (by decide) fun k hk => draw_ok (by decide) (by decide) fun a ha => ?_
  refine joinD_inv (fun s : Int => s.natAbs ≤ 10 ^ 18) (fun s3 h3 => ?_) fun j hj => ⟨fun _ => draw_ok (by decide) (by decide) fun c hc => hj _ (by omega), fun _ => hj _ (by omega)⟩
  refine joinD_inv (fun s : Int => s.natAbs ≤ 10 ^ 18) last fun j hj => ⟨fun _ => ?_, fun _ => hj _ h3⟩
  have hp : CPow (10 : Int) (9 : Int) := ⟨by decide, by decide, by decide⟩
  refine ⟨hp, draw_ok (by decide) (by decide) fun c hc => ⟨hp, draw_ok (by decide) (by decide) fun e he => ?_⟩⟩
  have hc : c < 1000000000 := by have : ((10 : Int) ^ ((9 : Int)).toNat) = 1000000000 := by decide
                                 omega
  have he : e < 1000000000 := by have : ((10 : Int) ^ ((9 : Int)).toNat) = 1000000000 := by decide
                                 omega
  refine ⟨.inl ⟨by omega, by omega⟩, fun z ez => hj z ?_⟩
  subst ez
  rw [Int.natAbs_mul]
  exact Nat.le_trans (Nat.mul_le_mul (show ((c : Int)).natAbs ≤ 10 ^ 9 by omega) (show ((1 : Int) + e).natAbs ≤ 10 ^ 9 by omega)) (by decide)
theorem ratio_ok {p : Int × Int} {t b : Int} {Q : Bool → Prop} {X : HE → Prop} (hl : Low p) (h1 : Sm p.1) (h2 : Sm p.2) (ht : Sm t) (hb : Sm b) (e : p.1 * b = t * p.2) (h : Q true) : m__law_ratioR p t b Q X := by
  unfold m__law_ratioR m__law_int
  refine ⟨(fun z => by cases z), fun _ => ⟨(fun z => by cases z), fun _ => ifD_f rfl ?_⟩⟩
  have h1' : ¬ p.2 < 1 := by have := hl.1; omega
  refine ⟨fun z => absurd (of_decide_eq_true z) h1', fun _ => divisor_ok h2 ?_⟩
  rw [hl.2]
  refine ifD_f rfl ⟨sm_mul h1 hb, sm_mul ht h2, ?_⟩
  rw [e, decide_eq_true rfl]
  exact h
/-- what str tells -/
def strD (p : Int × Int) : Str := if p.2 = 1 then numS p.1 else (numS p.1 ++ ("/" : Str)) ++ numS p.2
end
section
open TL
theorem tl_lit1 : tl ("-" : Str) = [45] := by rw [tl_ofString]; rfl
theorem tl_lit2 : tl ("/" : Str) = [47] := by rw [tl_ofString]; rfl
theorem tl_lit3 : tl ("0" : Str) = [48] := by rw [tl_ofString]; rfl
theorem tl_lit4 : tl ("1" : Str) = [49] := by rw [tl_ofString]; rfl
theorem tl_lit5 : tl ("0123456789" : Str) = [48, 49, 50, 51, 52, 53, 54, 55, 56, 57] := by rw [tl_ofString]; rfl
theorem cut_head {x : Str} : tl (cutS x none (some (1 : Int))) = (tl x).take 1 := by
  show (((x.cps.toList.drop (HT.sIx x.length 0 none)).take (HT.sIx x.length x.length (some ((1 : Nat) : Int)) - HT.sIx x.length 0 none)).toArray).toList = _
  rw [HT.sIx_none, HT.sIx_nat, List.drop_zero, Nat.sub_zero]
  show x.cps.toList.take (min 1 x.length) = (tl x).take 1
  have : x.length = (tl x).length := len_tl x
  rw [this]
  cases h : tl x with
  | nil => show x.cps.toList.take 0 = _; rfl
  | cons c r =>
    have h2 : x.cps.toList = c :: r := h
    rw [h2, List.length_cons, Nat.min_eq_left (by omega)]
theorem cut_from {x : Str} {k : Nat} : tl (cutS x (some (k : Int)) none) = (tl x).drop k := by
  show (((x.cps.toList.drop (HT.sIx x.length 0 (some (k : Int)))).take (HT.sIx x.length x.length none - HT.sIx x.length 0 (some (k : Int)))).toArray).toList = _
  rw [HT.sIx_none, HT.sIx_nat]
  show (x.cps.toList.drop (min k x.length)).take (x.length - min k x.length) = (tl x).drop k
  have e : x.length = (tl x).length := len_tl x
  have e2 : x.cps.toList = tl x := rfl
  rw [e, e2]
  by_cases h : k ≤ (tl x).length
  · rw [Nat.min_eq_left h, List.take_of_length_le (by rw [List.length_drop]; omega)]
  · rw [Nat.min_eq_right (by omega), List.drop_length, List.drop_of_length_le (by omega), List.take_nil]
def negL (l : List Nat) : Bool := decide (l.head? = some 45)
def bodyL (l : List Nat) : List Nat := if negL l = true then l.drop 1 else l
theorem starts_ok {x : Str} : Txt.startswith x ("-" : Str) = negL (tl x) := by
  have hy : tl ("-" : Str) ≠ [] := by rw [tl_lit1]; simp
  have h := at_iff (x := x) hy 0
  have e : PySem.StrLaws.At x ("-" : Str) x.length 0 ↔ Txt.startswith x ("-" : Str) = true := by
    unfold Txt.startswith
    rw [Bool.and_eq_true, decide_eq_true_iff]
    exact Iff.rfl
  rw [tl_lit1, List.drop_zero] at h
  have h2 : Txt.startswith x ("-" : Str) = true ↔ negL (tl x) = true := by
    rw [← e, h]
    unfold negL pre
    cases tl x with
    | nil => simp
    | cons c r => simp
  cases a : Txt.startswith x ("-" : Str) <;> cases b : negL (tl x) <;> simp_all
theorem head_minus {x : Str} : (cutS x none (some (1 : Int)) = ("-" : Str)) ↔ negL (tl x) = true := by
  have : (cutS x none (some (1 : Int)) = ("-" : Str)) ↔ (tl x).take 1 = [45] := ⟨fun h => by rw [← cut_head, h, tl_lit1], fun h => ext_tl (by rw [cut_head, h, tl_lit1])⟩
  rw [this]
  unfold negL
  cases tl x with
  | nil => simp
  | cons c r => simp
def digB (c : Nat) : Bool := decide (48 ≤ c) && decide (c ≤ 57)
def figB (l : List Nat) : Bool := decide (1 ≤ l.length) && (decide (l.length ≤ 60) && (!(decide (l.head? = some 48) && decide (1 < l.length)) && l.all digB))
theorem all_sgn {x : Str} : (((sgnL x).map fun y => decide (y ∈ sgnL ("0123456789" : Str))).all id) = (tl x).all digB := by
  unfold sgnL
  rw [List.map_map, List.all_map]
  show (x.cps.toList.all _) = _
  congr 1
  funext c
  show decide (sgn c ∈ sgnL ("0123456789" : Str)) = digB c
  have e : (sgn c ∈ sgnL ("0123456789" : Str)) ↔ (48 ≤ c ∧ c ≤ 57) := by
    rw [sgnL_mem]
    show c ∈ tl ("0123456789" : Str) ↔ _
    rw [tl_lit5]
    simp only [List.mem_cons, List.not_mem_nil, or_false]
    omega
  unfold digB
  rw [← Bool.decide_and]
  exact decide_eq_decide.mpr e
theorem one_sgn {x z : Str} (h : z ∈ sgnL x) : z.length = 1 := by
  unfold sgnL at h
  obtain ⟨c, _, e⟩ := List.mem_map.mp h
  rw [← e]
  rfl
theorem sgn0 {c : Nat} : decide ((⟨#[c]⟩ : Str) = ("0" : Str)) = decide (c = 48) := by
  have e : ((⟨#[c]⟩ : Str) = ("0" : Str)) ↔ c = 48 := ⟨fun h => by
    have := congrArg tl h
    rw [tl_lit3] at this
    have e2 : tl (⟨#[c]⟩ : Str) = [c] := rfl
    rw [e2] at this
    simpa using this, fun h => ext_tl (by rw [tl_lit3, h])⟩
  exact decide_eq_decide.mpr e
theorem figures_ok {x : Str} {Q : Bool → Prop} {X : HE → Prop} (h : Q (figB (tl x))) : m_is_figures x Q X := by
  unfold m_is_figures
  have hl := len_tl x
  unfold figB at h
  by_cases h1 : 1 ≤ (tl x).length
  · by_cases h2 : (tl x).length ≤ 60
    · rw [decide_eq_true h1, decide_eq_true h2, Bool.true_and, Bool.true_and] at h
      refine ifD_f (by rw [decide_eq_true (by omega), decide_eq_true (by omega)]; rfl) ?_
      obtain ⟨c, r, e⟩ : ∃ c r, tl x = c :: r := by
        cases q : tl x with
        | nil => rw [q] at h1; cases h1
        | cons c r => exact ⟨c, r, rfl⟩
      refine ⟨c, atI_nat (j := 0) (by show (tl x)[0]? = _; rw [e]; rfl), ?_⟩
      have e3 : decide ((tl x).head? = some 48) = decide (c = 48) := by
        rw [e]
        simp
      have e4 : decide ((x.length : Int) > 1) = decide (1 < (tl x).length) := decide_eq_decide.mpr (by omega)
      rw [sgn0, e4]
      rw [e3] at h
      cases q : (decide (c = 48) && decide (1 < (tl x).length)) with
      | true =>
        rw [q] at h
        exact ifD_t rfl h
      | false =>
        rw [q] at h
        refine ifD_f rfl (mapD_ok (fun y => decide (y ∈ sgnL ("0123456789" : Str))) (fun y hy k hk => ⟨one_sgn hy, hk⟩) ?_)
        rw [List.nil_append, all_sgn]
        exact h
    · rw [decide_eq_false h2, Bool.false_and, Bool.and_false] at h
      exact ifD_t (by rw [decide_eq_false (show ¬ ((x.length : Int) ≤ 60) by omega), Bool.and_false]; rfl) h
  · rw [decide_eq_false h1, Bool.false_and] at h
    exact ifD_t (by rw [decide_eq_false (show ¬ ((1 : Int) ≤ (x.length : Int)) by omega)]; rfl) h
theorem law_figures_ok {x : Str} {Q : Bool → Prop} {X : HE → Prop} (h : Q (figB (tl x))) : m__law_figures x Q X := by
  unfold m__law_figures
  have hl := len_tl x
  unfold figB at h
  by_cases h1 : 1 ≤ (tl x).length
  · refine ⟨fun e => absurd (of_decide_eq_true e) (by omega), fun _ => ?_⟩
    by_cases h2 : (tl x).length ≤ 60
    · rw [decide_eq_true h1, decide_eq_true h2, Bool.true_and, Bool.true_and] at h
      refine ⟨fun e => absurd (of_decide_eq_true e) (by omega), fun _ => ?_⟩
      obtain ⟨c, r, e⟩ : ∃ c r, tl x = c :: r := by
        cases q : tl x with
        | nil => rw [q] at h1; cases h1
        | cons c r => exact ⟨c, r, rfl⟩
      refine ⟨c, atI_nat (j := 0) (by show (tl x)[0]? = _; rw [e]; rfl), ?_⟩
      have e3 : decide ((tl x).head? = some 48) = decide (c = 48) := by
        rw [e]
        simp
      have e4 : decide ((x.length : Int) > 1) = decide (1 < (tl x).length) := decide_eq_decide.mpr (by omega)
      rw [sgn0, e4]
      rw [e3] at h
      cases q : (decide (c = 48) && decide (1 < (tl x).length)) with
      | true =>
        rw [q] at h
        exact ifD_t rfl h
      | false =>
        rw [q] at h
        refine ifD_f rfl (mapD_ok (fun y => decide (y ∈ sgnL ("0123456789" : Str))) (fun y hy k hk => ⟨one_sgn hy, hk⟩) ?_)
        rw [List.nil_append, all_sgn]
        exact h
    · rw [decide_eq_false h2, Bool.false_and, Bool.and_false] at h
      refine ⟨fun _ => ifD_t rfl h, fun e => absurd (of_decide_eq_false e) (by omega)⟩
  · rw [decide_eq_false h1, Bool.false_and] at h
    exact ⟨fun _ => ifD_t rfl h, fun e => absurd (of_decide_eq_false e) (by omega)⟩
theorem dig_iff {l : List Nat} : l.all digB = true ↔ ∀ c ∈ l, 48 ≤ c ∧ c ≤ 57 := by
  rw [List.all_eq_true]
  unfold digB
  constructor
  · intro h c hc
    have := h c hc
    rw [Bool.and_eq_true, decide_eq_true_iff, decide_eq_true_iff] at this
    exact this
  · intro h c hc
    rw [Bool.and_eq_true, decide_eq_true_iff, decide_eq_true_iff]
    exact h c hc
/-- the first sign of a number -/
theorem numL_head : ∀ n : Nat, 1 ≤ n → ∃ c r, numL n = c :: r ∧ 49 ≤ c := fun n => by
  induction n using Nat.strongRecOn with
  | _ n ih =>
    intro hn
    by_cases h : n < 10
    · exact ⟨48 + n, [], numL_lt h, by omega⟩
    · obtain ⟨c, r, e, hc⟩ := ih (n / 10) (by omega) (by omega)
      exact ⟨c, r ++ [48 + n % 10], by rw [numL_step (by omega), e]; rfl, hc⟩
theorem numL_lb : ∀ n : Nat, n < 10 ^ (numL n).length := fun n => by
  induction n using Nat.strongRecOn with
  | _ n ih =>
    by_cases h : n < 10
    · rw [numL_lt h]; exact h
    · have := ih (n / 10) (by omega)
      rw [numL_step (by omega), List.length_append, List.length_singleton, Nat.pow_succ]
      omega
theorem dig_num : ∀ {l : List Nat}, l ≠ [] → (∀ c ∈ l, 48 ≤ c ∧ c ≤ 57) → (l.head? = some 48 → l.length = 1) → ∃ n, l = numL n := by
  intro l
  induction h : l.length using Nat.strongRecOn generalizing l with
  | _ k ih =>
    intro ne hd hz
    obtain ⟨l', d, rfl⟩ : ∃ l' d, l = l' ++ [d] := by
      rcases List.eq_nil_or_concat l with e | ⟨l', d, e⟩
      · exact absurd e ne
      · exact ⟨l', d, by rw [e, List.concat_eq_append]⟩
    have dd := hd d (List.mem_append_right _ (List.mem_singleton.mpr rfl))
    by_cases e : l' = []
    · subst e
      refine ⟨d - 48, ?_⟩
      rw [numL_lt (by omega)]
      show [d] = [48 + (d - 48)]
      congr 1
      omega
    · have hh : l'.head? ≠ some 48 := fun q => by
        have h1 := hz (by
          cases l' with
          | nil => exact absurd rfl e
          | cons c r => exact q)
        rw [← h, List.length_append, List.length_singleton] at h1
        have : 0 < l'.length := List.length_pos_iff.mpr e
        omega
      obtain ⟨n, en⟩ := ih l'.length (by rw [← h, List.length_append, List.length_singleton]; omega) rfl e (fun c hc => hd c (List.mem_append_left _ hc)) fun q => absurd q hh
      have n1 : 1 ≤ n := by
        by_cases z : n = 0
        · subst z
          rw [en, numL_lt (by decide)] at hh
          exact absurd rfl hh
        · omega
      refine ⟨10 * n + (d - 48), ?_⟩
      rw [numL_step (by omega), show (10 * n + (d - 48)) / 10 = n by omega, show (10 * n + (d - 48)) % 10 = d - 48 by omega, en]
      congr 2
      omega
theorem fig_num {l : List Nat} (h : figB l = true) : ∃ n, n < 10 ^ 60 ∧ l = numL n := by
  unfold figB at h
  rw [Bool.and_eq_true, Bool.and_eq_true, Bool.and_eq_true, decide_eq_true_iff, decide_eq_true_iff, Bool.not_eq_true', dig_iff] at h
  obtain ⟨h1, h2, h3, h4⟩ := h
  have ne : l ≠ [] := fun e => by rw [e] at h1; cases h1
  obtain ⟨n, e⟩ := dig_num ne h4 fun q => by
    rw [decide_eq_true q, Bool.true_and, decide_eq_false_iff_not] at h3
    omega
  refine ⟨n, Nat.lt_of_lt_of_le (numL_lb n) (Nat.pow_le_pow_right (by decide) (by rw [← e]; exact h2)), e⟩
theorem num_fig {n : Nat} (h : n < 10 ^ 60) : figB (numL n) = true := by
  unfold figB
  rw [Bool.and_eq_true, Bool.and_eq_true, Bool.and_eq_true, decide_eq_true_iff, decide_eq_true_iff, Bool.not_eq_true', dig_iff]
  refine ⟨List.length_pos_iff.mpr (numL_ne n), numL_len (by decide) h, ?_, fun c hc => numL_digits n c hc⟩
  by_cases n0 : n = 0
  · subst n0; rw [numL_lt (by decide)]; rfl
  · obtain ⟨c, r, e, hc⟩ := numL_head n (by omega)
    rw [e]
    have : ¬ (c = 48) := by omega
    simp [this]
theorem num_ext {x : Str} {n : Nat} (h : tl x = numL n) : x = numS (n : Int) := ext_tl (by rw [h]; exact (tl_num n).symm)
theorem num_text {x : Str} {n : Nat} (h : tl x = numL n) (hn : n < 10 ^ 60) : PySem.intText? x = some (n : Int) ∧ x.length ≤ 640 := by
  have l := numL_len (by decide) hn
  refine ⟨?_, by rw [len_tl, h]; omega⟩
  rw [num_ext h]
  exact int_num (by omega)
/-- the text of a number -/
theorem tl_numS (t : Int) : tl (numS t) = (if t < 0 then [45] else []) ++ numL t.natAbs := by
  cases t with
  | ofNat n =>
    rw [if_neg (by show ¬ ((n : Int) < 0); omega)]
    exact tl_num n
  | negSucc n =>
    rw [if_pos (Int.negSucc_lt_zero n)]
    exact num_neg n
end
section
open TL
def sgI (neg : Bool) (n : Nat) : Int := if neg = true then -(n : Int) else n
theorem sgI_abs {neg : Bool} {n : Nat} : (sgI neg n).natAbs = n := by
  unfold sgI
  split <;> omega
theorem neg_body {l : List Nat} (h : negL l = true) : l = 45 :: bodyL l := by
  unfold bodyL
  rw [if_pos h]
  unfold negL at h
  cases l with
  | nil => simp at h
  | cons c r =>
    have : c = 45 := by simpa using h
    rw [this]
    rfl
theorem pos_body {l : List Nat} (h : negL l = false) : bodyL l = l := by
  unfold bodyL
  rw [if_neg (by rw [h]; exact Bool.false_ne_true)]
theorem body_eq (l : List Nat) : l = (if negL l = true then [45] else []) ++ bodyL l := by
  cases h : negL l with
  | true => rw [if_pos rfl]; exact neg_body h
  | false => rw [if_neg Bool.false_ne_true, List.nil_append, pos_body h]
/-- a text that is the text of a ratio -/
def Good (x : Str) (t b : Int) : Prop := ∃ n d : Nat, n < 10 ^ 60 ∧ d < 10 ^ 60 ∧ t = sgI (negL (tl x)) n ∧ b = (d : Int) ∧ ¬ (negL (tl x) = true ∧ n = 0) ∧
  ((bodyL (tl x) = numL n ∧ d = 1) ∨ (bodyL (tl x) = numL n ++ 47 :: numL d ∧ 2 ≤ d ∧ Int.gcd t b = 1))
theorem tl_strD {t b : Int} (hb : 1 ≤ b) : tl (strD (t, b)) = (if t < 0 then [45] else []) ++ (if b = 1 then numL t.natAbs else numL t.natAbs ++ 47 :: numL b.natAbs) := by
  unfold strD
  dsimp only
  by_cases e : b = 1
  · rw [if_pos e, if_pos e, tl_numS]
  · rw [if_neg e, if_neg e, tl_append, tl_append, tl_numS, tl_numS, tl_lit2, if_neg (show ¬ b < 0 by omega), List.nil_append, List.append_assoc, List.append_assoc]
    rfl
theorem good_low {x : Str} {t b : Int} (g : Good x t b) : Low (t, b) ∧ t.natAbs < 10 ^ 60 ∧ b.natAbs < 10 ^ 60 := by
  obtain ⟨n, d, hn, hd, rfl, rfl, h0, h⟩ := g
  rw [sgI_abs]
  refine ⟨?_, hn, by rw [Int.natAbs_natCast]; exact hd⟩
  rcases h with ⟨_, rfl⟩ | ⟨_, d2, g⟩
  · exact ⟨by show (1 : Int) ≤ 1; decide, Int.gcd_one_right _⟩
  · exact ⟨by show (1 : Int) ≤ (d : Int); omega, g⟩
theorem good_str {x : Str} {t b : Int} (g : Good x t b) : strD (t, b) = x := by
  have hb : 1 ≤ b := (good_low g).1.1
  obtain ⟨n, d, hn, hd, et, eb, h0, h⟩ := g
  refine ext_tl ?_
  rw [tl_strD hb]
  have hs : (if t < 0 then [45] else ([] : List Nat)) = if negL (tl x) = true then [45] else [] := by
    cases q : negL (tl x) with
    | true =>
      rw [q] at et h0
      have : n ≠ 0 := fun e => h0 ⟨rfl, e⟩
      have : t < 0 := by rw [et]; unfold sgI; rw [if_pos rfl]; omega
      rw [if_pos this, if_pos rfl]
    | false =>
      rw [q] at et
      have : ¬ t < 0 := by rw [et]; unfold sgI; rw [if_neg Bool.false_ne_true]; omega
      rw [if_neg this, if_neg Bool.false_ne_true]
  have ha : t.natAbs = n := by rw [et, sgI_abs]
  have hbn : b.natAbs = d := by rw [eb, Int.natAbs_natCast]
  conv => rhs; rw [body_eq (tl x)]
  rw [hs, ha, hbn]
  congr 1
  rcases h with ⟨e, d1⟩ | ⟨e, d2, _⟩
  · rw [if_pos (by omega), e]
  · rw [if_neg (by omega), e]
theorem dig_head {n : Nat} {r : List Nat} : negL (numL n ++ r) = false := by
  cases h : numL n with
  | nil => exact absurd h (numL_ne n)
  | cons c s =>
    have := numL_digits n c (by rw [h]; exact List.mem_cons_self ..)
    unfold negL
    have : c ≠ 45 := by omega
    simp [this]
theorem good_of {x : Str} {t b : Int} (hl : Low (t, b)) (h1 : t.natAbs < 10 ^ 60) (h2 : b.natAbs < 10 ^ 60) (e : strD (t, b) = x) : Good x t b := by
  have hb : 1 ≤ b := hl.1
  have ex := congrArg tl e
  rw [tl_strD hb] at ex
  obtain ⟨r, hr, hr2⟩ : ∃ r : List Nat, (if b = 1 then numL t.natAbs else numL t.natAbs ++ 47 :: numL b.natAbs) = numL t.natAbs ++ r ∧ ((b = 1 ∧ r = []) ∨ (b ≠ 1 ∧ r = 47 :: numL b.natAbs)) := by
    by_cases q : b = 1
    · exact ⟨[], by rw [if_pos q, List.append_nil], .inl ⟨q, rfl⟩⟩
    · exact ⟨_, by rw [if_neg q], .inr ⟨q, rfl⟩⟩
  rw [hr] at ex
  have hn : negL (tl x) = decide (t < 0) := by
    rw [← ex]
    by_cases q : t < 0
    · rw [if_pos q, decide_eq_true q]; rfl
    · rw [if_neg q, decide_eq_false q, List.nil_append]; exact dig_head
  have hbd : bodyL (tl x) = numL t.natAbs ++ r := by
    by_cases q : t < 0
    · rw [decide_eq_true q] at hn
      have := neg_body hn
      rw [← ex, if_pos q] at this
      have := List.cons.inj (show 45 :: (numL t.natAbs ++ r) = 45 :: bodyL _ from this)
      rw [← ex, if_pos q]
      exact this.2.symm
    · rw [decide_eq_false q] at hn
      rw [pos_body hn, ← ex, if_neg q, List.nil_append]
  refine ⟨t.natAbs, b.natAbs, h1, h2, ?_, by omega, ?_, ?_⟩
  · rw [hn]
    unfold sgI
    by_cases q : t < 0
    · rw [if_pos (decide_eq_true q)]; omega
    · rw [if_neg (by rw [decide_eq_false q]; exact Bool.false_ne_true)]; omega
  · rw [hn, decide_eq_true_iff]
    omega
  · rcases hr2 with ⟨q, e⟩ | ⟨q, e⟩
    · exact .inl ⟨by rw [hbd, e, List.append_nil], by omega⟩
    · exact .inr ⟨by rw [hbd, e], by omega, hl.2⟩
theorem low_rat {t b : Int} (h : Low (t, b)) : ratD t b = (t, b) := by
  have hb : 1 ≤ b := h.1
  have g : Int.gcd t b = 1 := h.2
  have : sgd t b = 1 := by unfold sgd; rw [if_neg (by omega), g]; rfl
  unfold ratD
  rw [this, Int.fdiv_one, Int.fdiv_one]
theorem cs60 {a : Int} (h : a.natAbs ≤ 10 ^ 60) : CStr a := Nat.lt_of_le_of_lt h (by decide)
theorem sm60 {a : Int} (h : a.natAbs ≤ 10 ^ 60) : Sm a := Nat.lt_of_le_of_lt h (Nat.lt_of_lt_of_le (show 10 ^ 60 < 2 ^ 200 by decide) (Nat.pow_le_pow_right (by decide) (by decide)))
theorem str_ok {p : Int × Int} {Q : Str → Prop} {X : HE → Prop} (h1 : p.1.natAbs ≤ 10 ^ 60) (h2 : p.2.natAbs ≤ 10 ^ 60) (h : Q (strD p)) : m_Ratio___str__ p Q X := by
  unfold m_Ratio___str__
  unfold strD at h
  have hb : big = 100000 := rfl
  have l1 := num_len (cs60 h1)
  have l2 := num_len (cs60 h2)
  have l3 : (("/" : Str)).length = 1 := by decide
  have l0 : Str.empty.length = 0 := rfl
  by_cases e : p.2 = 1
  · rw [if_pos e] at h
    exact ifD_t (by simpa using e) ⟨cs60 h1, h⟩
  · rw [if_neg e] at h
    refine ifD_f (by simpa using e) ?_
    rw [empty_app]
    refine ⟨cs60 h1, by omega, by omega, cs60 h2, ?_, ?_, h⟩
    · rw [len_app]; omega
    · rw [len_app, len_app]; omega
theorem read_tail {x top bt : Str} {neg : Bool} {n d : Nat} (h1 : tl top = numL n) (h2 : tl bt = numL d) (d0 : d ≠ 0) (hn : n < 10 ^ 60) (hd : d < 10 ^ 60) {Q : Int × Int → Prop} {X : HE → Prop}
    (h : (strD (ratD (sgI neg n) d) = x → Q (ratD (sgI neg n) d)) ∧ (strD (ratD (sgI neg n) d) ≠ x → X (.badWord x))) :
    joinD (fun k8 => ifD neg (∃ v10, PySem.intText? top = some v10 ∧ top.length ≤ 640 ∧ k8 (-v10)) (∃ v11, PySem.intText? top = some v11 ∧ top.length ≤ 640 ∧ k8 v11))
      (fun v9 : Int => ∃ v12, PySem.intText? bt = some v12 ∧ bt.length ≤ 640 ∧ m_Ratio___init__ v9 v12 (fun v13 => m_Ratio___str__ v13 (fun v14 => ifD (!decide (v14 = x)) (X (.badWord x)) (Q v13)) noX) X) := by
  obtain ⟨a1, a2⟩ := num_text h1 hn
  obtain ⟨b1, b2⟩ := num_text h2 hd
  refine joinD_inv (fun v => v = sgI neg n) (fun v ev => ?_) fun k hk => ⟨fun e => ⟨_, a1, a2, hk _ ?_⟩, fun e => ⟨_, a1, a2, hk _ ?_⟩⟩
  · subst ev
    refine ⟨_, b1, b2, rat_ok (by omega) (sm60 (by rw [Int.natAbs_natCast]; exact Nat.le_of_lt hd)) ?_⟩
    have db : ((d : Nat) : Int) ≠ 0 := by omega
    refine str_ok (rat_sn1 db (by rw [sgI_abs]; exact Nat.le_of_lt hn)) (rat_sn2 db (by rw [Int.natAbs_natCast]; exact Nat.le_of_lt hd)) ?_
    by_cases q : strD (ratD (sgI neg n) d) = x
    · exact ifD_f (by rw [decide_eq_true q]; rfl) (h.1 q)
    · exact ifD_t (by rw [decide_eq_false q]; rfl) (h.2 q)
  · unfold sgI; rw [if_pos e]
  · unfold sgI; rw [if_neg (by rw [e]; exact Bool.false_ne_true)]
theorem slash_or (l : List Nat) : 47 ∉ l ∨ ∃ p q, l = p ++ 47 :: q ∧ 47 ∉ p := by
  induction l with
  | nil => exact .inl (fun h => by cases h)
  | cons c r ih =>
    by_cases e : c = 47
    · exact .inr ⟨[], r, by rw [e]; rfl, fun h => by cases h⟩
    · rcases ih with h | ⟨p, q, h, hp⟩
      · exact .inl fun q => (List.mem_cons.mp q).elim (fun z => e z.symm) h
      · exact .inr ⟨c :: p, q, by rw [h]; rfl, fun z => (List.mem_cons.mp z).elim (fun z => e z.symm) hp⟩
theorem empty_lit : Str.empty = ("" : Str) := ext_tl (by rw [tl_ofString]; rfl)
/-- the reader's own steps: the top, the bottom -/
theorem read_go {x : Str} (hx : x.length ≤ 1000) {Q : Int × Int → Prop} {X : HE → Prop}
    (h : ∀ n d : Nat, n < 10 ^ 60 → d < 10 ^ 60 → d ≠ 0 → ((bodyL (tl x) = numL n ∧ d = 1) ∨ bodyL (tl x) = numL n ++ 47 :: numL d) → (strD (ratD (sgI (negL (tl x)) n) d) = x → Q (ratD (sgI (negL (tl x)) n) d)) ∧ (strD (ratD (sgI (negL (tl x)) n) d) ≠ x → X (.badWord x)))
    (hX : (∀ n d : Nat, n < 10 ^ 60 → d < 10 ^ 60 → d ≠ 0 → ¬ ((bodyL (tl x) = numL n ∧ d = 1) ∨ bodyL (tl x) = numL n ++ 47 :: numL d)) → X (.badWord x)) : m_Ratio_read x Q X := by
  unfold m_Ratio_read
  intro neg eneg body ebody
  rw [starts_ok] at eneg
  subst eneg
  have eb : tl body = bodyL (tl x) := by
    rw [ebody]
    unfold bodyL
    cases q : negL (tl x) with
    | true => rw [if_pos rfl]; exact cut_from (k := 1)
    | false => rw [if_neg Bool.false_ne_true]; rfl
  have lb : body.length ≤ 1000 := by
    rw [len_tl, eb]
    rw [len_tl] at hx
    unfold bodyL
    split
    · rw [List.length_drop]; omega
    · exact hx
  have hb : big = 100000 := rfl
  have l2 : ("/" : Str).length = 1 := by decide
  have z2 : (("/" : Str).length == 0) = false := by decide
  rcases slash_or (bodyL (tl x)) with hs | ⟨p, q, hs, hp⟩
  · have pt : Txt.partition body ("/" : Str) = (body, Str.empty, Str.empty) := partition_none tl_lit2 (by rw [eb]; exact hs)
    rw [pt]
    refine ⟨⟨z2, by show body.length ≤ big; omega, by show 0 ≤ big; omega, by show 0 ≤ big; omega⟩, figures_ok ?_⟩
    rw [eb]
    have no2 : ∀ n d : Nat, bodyL (tl x) ≠ numL n ++ 47 :: numL d := fun n d e => hs (by rw [e]; exact List.mem_append_right _ (List.mem_cons_self ..))
    cases f : figB (bodyL (tl x)) with
    | false =>
      refine ifD_t rfl (hX fun n d hn _ _ e => ?_)
      rcases e with ⟨e, _⟩ | e
      · rw [e, num_fig hn] at f; cases f
      · exact no2 n d e
    | true =>
      obtain ⟨n, hn, en⟩ := fig_num f
      refine ifD_f rfl (joinI (ifD_t (decide_eq_true empty_lit) (figures_ok ?_)))
      have e1 : tl ("1" : Str) = numL 1 := by rw [tl_lit4, numL_lt (by decide)]
      rw [e1, num_fig (by decide)]
      have n10 : ("1" : Str) ≠ ("0" : Str) := fun e => by
        have := congrArg tl e
        rw [tl_lit4, tl_lit3] at this
        cases this
      exact ifD_f (by rw [decide_eq_false n10]; rfl) (read_tail (by rw [eb, en]) e1 (by decide) hn (by decide) (h n 1 hn (by decide) (by decide) (.inl ⟨en, rfl⟩)))
  · have bs : body = ((⟨p.toArray⟩ : Str) ++ ("/" : Str)) ++ (⟨q.toArray⟩ : Str) := ext_tl (by rw [tl_append, tl_append, tl_lit2, eb, hs, List.append_assoc]; rfl)
    have pt : Txt.partition body ("/" : Str) = ((⟨p.toArray⟩ : Str), ("/" : Str), (⟨q.toArray⟩ : Str)) := by rw [bs]; exact partition_app tl_lit2 hp
    have lpq : (⟨p.toArray⟩ : Str).length + 1 + (⟨q.toArray⟩ : Str).length = body.length := by
      rw [bs, len_app, len_app, l2]
    rw [pt]
    refine ⟨⟨z2, by show (⟨p.toArray⟩ : Str).length ≤ big; omega, by show ("/" : Str).length ≤ big; omega, by show (⟨q.toArray⟩ : Str).length ≤ big; omega⟩, figures_ok ?_⟩
    have tp : tl (⟨p.toArray⟩ : Str) = p := tl_mk p
    have tq : tl (⟨q.toArray⟩ : Str) = q := tl_mk q
    have uniq : ∀ {n d : Nat}, bodyL (tl x) = numL n ++ 47 :: numL d → p = numL n ∧ q = numL d := fun {n d} e => by
      rw [hs] at e
      have hn : 47 ∉ numL n := numL_free (.inl (by decide))
      have key : ∀ {a b c d : List Nat}, 47 ∉ a → 47 ∉ c → a ++ 47 :: b = c ++ 47 :: d → a = c ∧ b = d := by
        intro a
        induction a with
        | nil =>
          intro b c d _ hc e
          cases c with
          | nil => exact ⟨rfl, (List.cons.inj e).2⟩
          | cons z c => exact absurd (List.mem_cons.mpr (.inl (List.cons.inj e).1)) hc
        | cons y a ih =>
          intro b c d ha hc e
          cases c with
          | nil => exact absurd (List.mem_cons.mpr (.inl (List.cons.inj e).1.symm)) ha
          | cons z c =>
            obtain ⟨e1, e2⟩ := List.cons.inj e
            obtain ⟨h1, h2⟩ := ih (fun q => ha (List.mem_cons_of_mem _ q)) (fun q => hc (List.mem_cons_of_mem _ q)) e2
            exact ⟨by rw [e1, h1], h2⟩
      exact key hp hn e
    have no1 : ∀ n : Nat, bodyL (tl x) ≠ numL n := fun n e => by
      have : 47 ∉ numL n := numL_free (.inl (by decide))
      rw [← e, hs] at this
      exact this (List.mem_append_right _ (List.mem_cons_self ..))
    rw [tp]
    cases f : figB p with
    | false =>
      refine ifD_t rfl (hX fun n d hn _ _ e => ?_)
      rcases e with ⟨e, _⟩ | e
      · exact no1 n e
      · rw [(uniq e).1, num_fig hn] at f; cases f
    | true =>
      obtain ⟨n, hn, en⟩ := fig_num f
      have ns : ("/" : Str) ≠ ("" : Str) := fun e => by
        have := congrArg tl e
        rw [tl_lit2, ← empty_lit] at this
        cases this
      refine ifD_f rfl (joinI (ifD_f (decide_eq_false ns) (figures_ok ?_)))
      rw [tq]
      cases f2 : figB q with
      | false =>
        refine ifD_t rfl (hX fun n d _ hd _ e => ?_)
        rcases e with ⟨e, _⟩ | e
        · exact no1 n e
        · rw [(uniq e).2, num_fig hd] at f2; cases f2
      | true =>
        obtain ⟨d, hd, ed⟩ := fig_num f2
        by_cases d0 : d = 0
        · have q0 : (⟨q.toArray⟩ : Str) = ("0" : Str) := ext_tl (by rw [tq, ed, d0, numL_lt (by decide), tl_lit3])
          refine ifD_t (by rw [decide_eq_true q0, Bool.or_true]) (hX fun n' d' _ _ hd0 e => ?_)
          rcases e with ⟨e, _⟩ | e
          · exact no1 n' e
          · have := (uniq e).2
            rw [ed] at this
            exact hd0 (by rw [← numL_inj this, d0])
        · have q0 : (⟨q.toArray⟩ : Str) ≠ ("0" : Str) := fun e => by
            have := congrArg tl e
            rw [tq, ed, tl_lit3, show [48] = numL 0 by rw [numL_lt (by decide)]] at this
            exact d0 (numL_inj this)
          exact ifD_f (by rw [decide_eq_false q0]; rfl) (read_tail (by rw [tp, en]) (by rw [tq, ed]) d0 hn hd (h n d hn hd d0 (.inr (by rw [hs, en, ed]))))
end
section
open TL
theorem read_yes {x : Str} (hx : x.length ≤ 1000) {t b : Int} (g : Good x t b) {Q : Int × Int → Prop} {X : HE → Prop} (h : Q (t, b)) : m_Ratio_read x Q X := by
  have hl := (good_low g).1
  have es := good_str g
  obtain ⟨n0, d0, hn0, hd0, et, eb, z0, h0⟩ := g
  have same : ∀ n d : Nat, ((bodyL (tl x) = numL n ∧ d = 1) ∨ bodyL (tl x) = numL n ++ 47 :: numL d) → n = n0 ∧ d = d0 := fun n d e => by
    have free : ∀ k : Nat, 47 ∉ numL k := fun k => numL_free (.inl (by decide))
    rcases e with ⟨e, d1⟩ | e <;> rcases h0 with ⟨f, f1⟩ | ⟨f, _, _⟩
    · exact ⟨numL_inj (e.symm.trans f), by omega⟩
    · exact absurd (by rw [← e, f]; exact List.mem_append_right _ (List.mem_cons_self ..)) (free n)
    · exact absurd (by rw [← f, e]; exact List.mem_append_right _ (List.mem_cons_self ..)) (free n0)
    · rw [e] at f
      have key : ∀ {a b c d : List Nat}, 47 ∉ a → 47 ∉ c → a ++ 47 :: b = c ++ 47 :: d → a = c ∧ b = d := by
        intro a
        induction a with
        | nil =>
          intro b c d _ hc e
          cases c with
          | nil => exact ⟨rfl, (List.cons.inj e).2⟩
          | cons z c => exact absurd (List.mem_cons.mpr (.inl (List.cons.inj e).1)) hc
        | cons y a ih =>
          intro b c d ha hc e
          cases c with
          | nil => exact absurd (List.mem_cons.mpr (.inl (List.cons.inj e).1.symm)) ha
          | cons z c =>
            obtain ⟨e1, e2⟩ := List.cons.inj e
            obtain ⟨h1, h2⟩ := ih (fun q => ha (List.mem_cons_of_mem _ q)) (fun q => hc (List.mem_cons_of_mem _ q)) e2
            exact ⟨by rw [e1, h1], h2⟩
      obtain ⟨k1, k2⟩ := key (free n) (free n0) f
      exact ⟨numL_inj k1, numL_inj k2⟩
  have er : ratD (sgI (negL (tl x)) n0) d0 = (t, b) := by rw [← et, ← eb]; exact low_rat hl
  refine read_go hx (fun n d hn hd hd0 e => ?_) fun hno => ?_
  · obtain ⟨rfl, rfl⟩ := same n d e
    rw [er]
    exact ⟨fun _ => h, fun ne => absurd es ne⟩
  · have b1 : 1 ≤ b := hl.1
    refine absurd ?_ (hno n0 d0 hn0 hd0 (by omega))
    rcases h0 with ⟨f, f1⟩ | ⟨f, _, _⟩
    · exact .inl ⟨f, f1⟩
    · exact .inr f
theorem read_no {x : Str} (hx : x.length ≤ 1000) (no : ∀ t b, ¬ Good x t b) {Q : Int × Int → Prop} {X : HE → Prop} (h : X (.badWord x)) : m_Ratio_read x Q X := by
  refine read_go hx (fun n d hn hd hd0 e => ⟨fun es => ?_, fun _ => h⟩) fun _ => h
  have db : ((d : Nat) : Int) ≠ 0 := by omega
  have s1 : (ratD (sgI (negL (tl x)) n) d).1.natAbs < 10 ^ 60 := Nat.lt_of_le_of_lt (rat_sn1 db (by rw [sgI_abs]; exact Nat.le_refl n)) hn
  have s2 : (ratD (sgI (negL (tl x)) n) d).2.natAbs < 10 ^ 60 := Nat.lt_of_le_of_lt (rat_sn2 db (by rw [Int.natAbs_natCast]; exact Nat.le_refl d)) hd
  exact absurd (good_of (rat_low db) s1 s2 es) (no _ _)
theorem spl_ne {S : List Nat} : ∀ (l : List Nat) (k : Nat) (acc : List Nat), spl S k acc l ≠ []
  | [], k, acc => by rw [spl_nil]; simp
  | d :: r, k + 1, acc => spl_ne r k acc
  | d :: r, 0, acc => by
    cases e : pre S (d :: r) with
    | true => rw [spl_hit e]; simp
    | false => rw [spl_miss e]; exact spl_ne r 0 _
theorem spl_long {S : List Nat} : ∀ (l : List Nat) (k : Nat) (acc : List Nat), ∀ p ∈ spl S k acc l, p.length ≤ acc.length + l.length
  | [], k, acc, p, hp => by
    rw [spl_nil] at hp
    rw [List.mem_singleton.mp hp]
    exact Nat.le_refl _
  | d :: r, k + 1, acc, p, hp => by
    have := spl_long r k acc p hp
    rw [List.length_cons]
    omega
  | d :: r, 0, acc, p, hp => by
    rw [List.length_cons]
    cases e : pre S (d :: r) with
    | true =>
      rw [spl_hit e] at hp
      rcases List.mem_cons.mp hp with q | q
      · rw [q]; omega
      · have := spl_long r _ _ p q
        rw [List.length_nil] at this
        omega
    | false =>
      rw [spl_miss e] at hp
      have := spl_long r _ _ p hp
      rw [List.length_append, List.length_singleton] at this
      omega
theorem kind_slash (x : Str) : ¬ Builtin.Str.strKind x < Builtin.Str.strKind ("/" : Str) := kind_ok (by
  rw [← Array.all_toList, show ("/" : Str).cps.toList = [47] from tl_lit2]
  decide)
theorem split_tl (x : Str) : (Txt.split x ("/" : Str)).map tl = spl [47] 0 [] (tl x) := by
  rw [split_spl x _ (by rw [tl_lit2]; simp) (kind_slash x), tl_lit2]
theorem divisor_one {a : Int} {d : Nat} (hd : d < 10 ^ 60) {Q : Int → Prop} {X : HE → Prop} (h : Q (Int.gcd a d)) : m__law_divisor a d Q X := divisor_ok (sm60 (by rw [Int.natAbs_natCast]; exact Nat.le_of_lt hd)) h
theorem due_ok {x : Str} (hx : x.length ≤ 1000) {Q : Option (List Int) → Prop} {X : HE → Prop} (hy : ∀ t b, Good x t b → Q (some [t, b])) (hn : (∀ t b, ¬ Good x t b) → Q none) : m__law_due x Q X := by
  unfold m__law_due
  have hb : big = 100000 := rfl
  have hm : decide (cutS x none (some (1 : Int)) = ("-" : Str)) = negL (tl x) := by
    cases q : negL (tl x) with
    | true => exact decide_eq_true (head_minus.mpr q)
    | false => exact decide_eq_false fun e => by rw [head_minus.mp e] at q; cases q
  rw [hm]
  refine joinD_inv (fun s : Str => tl s = bodyL (tl x)) (fun s es => ?_) fun k hk => ⟨fun e z ez => hk _ ?_, fun e => hk _ ?_⟩
  rotate_left
  · rw [ez]; unfold bodyL; rw [if_pos e]; exact cut_from (k := 1)
  · rw [pos_body e]
  have ls : s.length ≤ 1000 := by
    rw [len_tl, es]
    rw [len_tl] at hx
    unfold bodyL
    split
    · rw [List.length_drop]; omega
    · exact hx
  have sp := split_tl s
  have z2 : (("/" : Str).length == 0) = false := by decide
  refine ⟨⟨z2, by omega, ?_, fun z hz => ?_⟩, fun parts eparts => ?_⟩
  · have := PyProof.Rows.split_le s ("/" : Str)
    omega
  · have hm : tl z ∈ spl [47] 0 [] (tl s) := by rw [← sp]; exact List.mem_map.mpr ⟨z, hz, rfl⟩
    have := spl_long _ _ _ _ hm
    rw [← len_tl, List.length_nil, ← len_tl] at this
    omega
  rw [← eparts, es] at sp
  have free : ∀ k : Nat, 47 ∉ numL k := fun k => numL_free (.inl (by decide))
  rcases slash_or (bodyL (tl x)) with hs | ⟨p, q, hs, hp⟩
  · rw [spl_last1 hs, List.nil_append] at sp
    obtain ⟨z, rfl⟩ : ∃ z, parts = [z] := by
      cases parts with
      | nil => cases sp
      | cons z l =>
        cases l with
        | nil => exact ⟨z, rfl⟩
        | cons w l => exact absurd (List.cons.inj sp).2 (by simp)
    have tz : tl z = bodyL (tl x) := (List.cons.inj sp).1
    have no2 : ∀ n d : Nat, bodyL (tl x) ≠ numL n ++ 47 :: numL d := fun n d e => hs (by rw [e]; exact List.mem_append_right _ (List.mem_cons_self ..))
    refine ⟨fun e => absurd (of_decide_eq_true e) (by show ¬ ((1 : Int) > 2); decide), fun _ => ?_⟩
    refine mapD_ok (fun z => figB (tl z)) (fun z _ k hk => law_figures_ok hk) ?_
    show ifD (!(figB (tl z) && true)) _ _
    rw [Bool.and_true, tz]
    cases f : figB (bodyL (tl x)) with
    | false =>
      refine ifD_t rfl (hn fun t b ⟨n, d, h1, h2, _, _, _, e⟩ => ?_)
      rcases e with ⟨e, _⟩ | ⟨e, _⟩
      · rw [e, num_fig h1] at f; cases f
      · exact no2 n d e
    | true =>
      obtain ⟨n, h1, en⟩ := fig_num f
      obtain ⟨a1, a2⟩ := num_text (x := z) (tz.trans en) h1
      refine ifD_f rfl ⟨z, rfl, _, a1, a2, ?_⟩
      have uniq : ∀ t b, Good x t b → t = sgI (negL (tl x)) n ∧ b = 1 := fun t b ⟨n', d', _, _, et, eb, _, e⟩ => by
        rcases e with ⟨e, d1⟩ | ⟨e, _⟩
        · exact ⟨by rw [et, numL_inj (e.symm.trans en)], by rw [eb, d1]; rfl⟩
        · exact absurd e (no2 n' d')
      refine joinD_inv (fun v => v = sgI (negL (tl x)) n ∧ ¬ (negL (tl x) = true ∧ n = 0)) (fun v ⟨ev, nz⟩ => ifD_t rfl ?_) fun k hk => ⟨fun e => ?_, fun e => hk _ ⟨?_, ?_⟩⟩
      · rw [ev]
        exact hy _ _ ⟨n, 1, h1, by decide, rfl, rfl, nz, .inl ⟨en, rfl⟩⟩
      · by_cases n0 : n = 0
        · refine ifD_t (decide_eq_true (by omega)) (hn fun t b g => ?_)
          obtain ⟨n', d', _, _, et, eb, nz, e2⟩ := g
          rcases e2 with ⟨e2, _⟩ | ⟨e2, _⟩
          · exact nz ⟨e, by rw [numL_inj (e2.symm.trans en), n0]⟩
          · exact no2 n' d' e2
        · refine ifD_f (decide_eq_false (by omega)) fun t et => hk _ ⟨?_, fun q => n0 q.2⟩
          rw [et]; unfold sgI; rw [if_pos e]
      · unfold sgI; rw [if_neg (by rw [e]; exact Bool.false_ne_true)]
      · exact fun q => by rw [e] at q; cases q.1
  · have no1 : ∀ n : Nat, bodyL (tl x) ≠ numL n := fun n e => by
      have := free n
      rw [← e, hs] at this
      exact this (List.mem_append_right _ (List.mem_cons_self ..))
    have e47 : bodyL (tl x) = p ++ ([47] ++ q) := by rw [hs]; rfl
    rw [e47, spl_part1 hp, List.nil_append] at sp
    have uniq : ∀ {n d : Nat}, bodyL (tl x) = numL n ++ 47 :: numL d → p = numL n ∧ q = numL d := fun {n d} e => by
      rw [hs] at e
      have key : ∀ {a b c d : List Nat}, 47 ∉ a → 47 ∉ c → a ++ 47 :: b = c ++ 47 :: d → a = c ∧ b = d := by
        intro a
        induction a with
        | nil =>
          intro b c d _ hc e
          cases c with
          | nil => exact ⟨rfl, (List.cons.inj e).2⟩
          | cons z c => exact absurd (List.mem_cons.mpr (.inl (List.cons.inj e).1)) hc
        | cons y a ih =>
          intro b c d ha hc e
          cases c with
          | nil => exact absurd (List.mem_cons.mpr (.inl (List.cons.inj e).1.symm)) ha
          | cons z c =>
            obtain ⟨e1, e2⟩ := List.cons.inj e
            obtain ⟨h1, h2⟩ := ih (fun q => ha (List.mem_cons_of_mem _ q)) (fun q => hc (List.mem_cons_of_mem _ q)) e2
            exact ⟨by rw [e1, h1], h2⟩
      exact key hp (free n) e
    rcases slash_or q with hq | ⟨p2, q2, hq, hp2⟩
    · rw [spl_last1 hq, List.nil_append] at sp
      obtain ⟨z, w, rfl⟩ : ∃ z w, parts = [z, w] := by
        cases parts with
        | nil => cases sp
        | cons z l =>
          cases l with
          | nil => exact absurd (List.cons.inj sp).2 (by simp)
          | cons w l =>
            cases l with
            | nil => exact ⟨z, w, rfl⟩
            | cons u l => exact absurd (List.cons.inj (List.cons.inj sp).2).2 (by simp)
      have tz : tl z = p := (List.cons.inj sp).1
      have tw : tl w = q := (List.cons.inj (List.cons.inj sp).2).1
      refine ⟨fun e => absurd (of_decide_eq_true e) (by show ¬ ((2 : Int) > 2); decide), fun _ => ?_⟩
      refine mapD_ok (fun z => figB (tl z)) (fun z _ k hk => law_figures_ok hk) ?_
      show ifD (!(figB (tl z) && (figB (tl w) && true))) _ _
      rw [Bool.and_true, tz, tw]
      cases f : figB p && figB q with
      | false =>
        refine ifD_t rfl (hn fun t b ⟨n, d, h1, h2, _, _, _, e⟩ => ?_)
        rcases e with ⟨e, _⟩ | ⟨e, _⟩
        · exact no1 n e
        · obtain ⟨k1, k2⟩ := uniq e
          rw [k1, k2, num_fig h1, num_fig h2] at f
          cases f
      | true =>
        rw [Bool.and_eq_true] at f
        obtain ⟨n, h1, en⟩ := fig_num f.1
        obtain ⟨d, h2, ed⟩ := fig_num f.2
        obtain ⟨a1, a2⟩ := num_text (x := z) (tz.trans en) h1
        obtain ⟨b1, b2⟩ := num_text (x := w) (tw.trans ed) h2
        have only : ∀ t b, Good x t b → t = sgI (negL (tl x)) n ∧ b = (d : Int) ∧ ¬ (negL (tl x) = true ∧ n = 0) ∧ 2 ≤ d ∧ Int.gcd t b = 1 := fun t b ⟨n', d', _, _, et, eb, nz, e⟩ => by
          rcases e with ⟨e, _⟩ | ⟨e, d2, g⟩
          · exact absurd e (no1 n')
          · obtain ⟨k1, k2⟩ := uniq e
            have hn' : n = n' := numL_inj (en.symm.trans k1)
            have hd' : d = d' := numL_inj (ed.symm.trans k2)
            subst hn' hd'
            exact ⟨et, eb, nz, d2, g⟩
        refine ifD_f rfl ⟨z, rfl, _, a1, a2, ?_⟩
        refine joinD_inv (fun v => v = sgI (negL (tl x)) n ∧ ¬ (negL (tl x) = true ∧ n = 0)) (fun v ⟨ev, nz⟩ => ifD_f rfl ⟨w, rfl, _, b1, b2, ?_⟩) fun k hk => ⟨fun e => ?_, fun e => hk _ ⟨?_, ?_⟩⟩
        · subst ev
          by_cases d2 : d < 2
          · refine ⟨fun _ => ifD_t rfl (hn fun t b g => ?_), fun e => absurd (of_decide_eq_false e) (by omega)⟩
            have := (only t b g).2.2.2.1
            omega
          · refine ⟨fun e => absurd (of_decide_eq_true e) (by omega), fun _ => divisor_one h2 ?_⟩
            by_cases g1 : Int.gcd (sgI (negL (tl x)) n) (d : Int) = 1
            · refine ifD_f (by rw [g1]; rfl) (hy _ _ ⟨n, d, h1, h2, rfl, rfl, nz, .inr ⟨by rw [hs, en, ed], by omega, g1⟩⟩)
            · refine ifD_t (by rw [decide_eq_false (by omega)]; rfl) (hn fun t b g => ?_)
              obtain ⟨k1, k2, _, _, k5⟩ := only t b g
              rw [k1, k2] at k5
              exact g1 k5
        · by_cases n0 : n = 0
          · refine ifD_t (decide_eq_true (by omega)) (hn fun t b g => (only t b g).2.2.1 ⟨e, n0⟩)
          · refine ifD_f (decide_eq_false (by omega)) fun t et => hk _ ⟨?_, fun q => n0 q.2⟩
            rw [et]; unfold sgI; rw [if_pos e]
        · unfold sgI; rw [if_neg (by rw [e]; exact Bool.false_ne_true)]
        · exact fun q => by rw [e] at q; cases q.1
    · have e3 : q = p2 ++ ([47] ++ q2) := by rw [hq]; rfl
      rw [e3, spl_part1 hp2] at sp
      have l3 : 2 < parts.length := by
        have := congrArg List.length sp
        rw [List.length_map, List.length_cons, List.length_cons] at this
        have : 0 < (spl [47] 0 [] q2).length := List.length_pos_iff.mpr (spl_ne _ _ _)
        omega
      refine ⟨fun _ => ifD_t rfl (hn fun t b ⟨n, d, h1, h2, _, _, _, e⟩ => ?_), fun e => absurd (of_decide_eq_false e) (by omega)⟩
      rcases e with ⟨e, _⟩ | ⟨e, _⟩
      · exact no1 n e
      · have := free d
        rw [← (uniq e).2, hq] at this
        exact this (List.mem_append_right _ (List.mem_cons_self ..))
theorem law_read_yes {x : Str} (hx : x.length ≤ 1000) {t b : Int} (g : Good x t b) {Q : Option ((Int × Int) ⊕ (Str × Str)) → Prop} {X : HE → Prop} (h : Q (some (.inl (t, b)))) : m__law_read x Q X := by
  unfold m__law_read
  intro z _
  refine joinI (tryI (read_yes hx g fun w ew => ?_))
  rw [ew]
  exact h
theorem law_read_no {x : Str} (hx : x.length ≤ 1000) (no : ∀ t b, ¬ Good x t b) {Q : Option ((Int × Int) ⊕ (Str × Str)) → Prop} {X : HE → Prop} (h : Q (some (.inr ("BadWord", x)))) : m__law_read x Q X := by
  unfold m__law_read
  intro z _
  refine joinI (tryI (read_no hx no ?_))
  intro w ew
  rw [ew]
  exact h
theorem right_ok {x : Str} (hx : x.length ≤ 1000) {Q : Bool → Prop} {X : HE → Prop} (h : Q true) : m__law_right x Q X := by
  unfold m__law_right
  by_cases ex : ∃ t b, Good x t b
  · obtain ⟨t, b, g⟩ := ex
    refine due_ok hx (fun t b g => ?_) fun no => absurd g (no t b)
    refine law_read_yes hx g ⟨(fun e => by cases e), fun y ey => ?_⟩
    have ey : y = [t, b] := (Option.some.inj ey).symm
    subst ey
    obtain ⟨hl, h1, h2⟩ := good_low g
    refine ⟨(t, b), rfl, t, rfl, b, rfl, ratio_ok hl (sm60 (Nat.le_of_lt h1)) (sm60 (Nat.le_of_lt h2)) (sm60 (Nat.le_of_lt h1)) (sm60 (Nat.le_of_lt h2)) rfl ⟨fun _ => str_ok (Nat.le_of_lt h1) (Nat.le_of_lt h2) ?_, fun e => by cases e⟩⟩
    rw [good_str g, decide_eq_true rfl]
    exact h
  · have no : ∀ t b, ¬ Good x t b := fun t b g => ex ⟨t, b, g⟩
    refine due_ok hx (fun t b g => absurd g (no t b)) fun _ => ?_
    refine law_read_no hx no ⟨fun _ => ⟨_, rfl, ?_⟩, fun y ey => by cases ey⟩
    rw [decide_eq_true rfl]
    exact h
theorem sign_at {s : Str} {k : Nat} (h : k < s.length) : ∃ c, atI s.cps.toList (k : Int) = some c := ⟨s.cps.toList[k]'(by rw [Array.length_toList]; exact h), atI_nat (List.getElem?_eq_getElem _)⟩
theorem cut_len {z : Str} {lo hi : Option Int} : (cutS z lo hi).length ≤ z.length := cutS_length z lo hi
theorem bent_ok {x : Str} (hx : x.length ≤ 200) {Q : Str → Prop} (h : ∀ y : Str, y.length ≤ 1000 → Q y) : m__law_bent x Q noX := by
  unfold m__law_bent
  have hb : big = 100000 := rfl
  refine draw_ok (by omega) (by omega) fun a ha => draw_ok (by decide) (by decide) fun s hs => ?_
  have lc : ("0123456789-/+ a" : Str).length = 15 := by decide
  obtain ⟨c, hc⟩ := sign_at (s := ("0123456789-/+ a" : Str)) (k := s) (by omega)
  refine ⟨c, hc, fun sg esg => draw_ok (by decide) (by decide) fun k hk => ?_⟩
  have l1 : sg.length = 1 := by rw [esg]; rfl
  have c1 := cut_len (z := x) (lo := none) (hi := some (a : Int))
  have c2 := cut_len (z := x) (lo := some ((a : Int) + 1)) (hi := none)
  have c3 := cut_len (z := x) (lo := some (a : Int)) (hi := none)
  refine ⟨fun _ => ⟨by omega, h _ (by rw [len_app]; omega)⟩, fun _ => ⟨fun _ => ⟨by omega, by rw [len_app]; omega, h _ (by rw [len_app, len_app]; omega)⟩, fun _ => ⟨by omega, by rw [len_app]; omega, h _ (by rw [len_app, len_app]; omega)⟩⟩⟩
theorem mul_len {z : Str} {n : Int} {m : Nat} (hn : n = (m : Int)) : (Txt.mul z n).length = m * z.length := by
  have key : ∀ (m : Nat) (acc : Array Nat), ((List.replicate m z.cps).foldl (· ++ ·) acc).size = acc.size + m * z.length := by
    intro m
    induction m with
    | zero => intro acc; simp
    | succ m ih =>
      intro acc
      rw [List.replicate_succ, List.foldl_cons, ih, Array.size_append, Nat.add_mul]
      show acc.size + z.length + _ = _
      omega
  subst hn
  unfold Txt.mul
  split
  · have : m = 0 := by omega
    rw [this, Nat.zero_mul]
    rfl
  · split
    · rename_i h1 h2
      rw [Bool.or_eq_true, beq_iff_eq, beq_iff_eq] at h2
      rcases h2 with e | e
      · have : m = 1 := by omega
        rw [this, Nat.one_mul]
      · rw [e, Nat.mul_zero]
    · show ((List.replicate (m : Int).toNat z.cps).foldl (· ++ ·) #[]).size = _
      rw [Int.toNat_natCast, key]
      simp
theorem long_ok {Q : Str → Prop} (h : ∀ y : Str, y.length ≤ 1000 → Q y) : m__law_long Q noX := by
  unfold m__law_long
  have hb : big = 100000 := rfl
  refine draw_ok (by decide) (by decide) fun s hs => ?_
  have lc : ("123456789" : Str).length = 9 := by decide
  obtain ⟨c, hc⟩ := sign_at (s := ("123456789" : Str)) (k := s) (by omega)
  refine ⟨c, hc, fun dg edg => draw_ok (by decide) (by decide) fun n hn => ?_⟩
  have l1 : dg.length = 1 := by rw [edg]; rfl
  refine ⟨⟨⟨by omega, by omega⟩, by omega⟩, fun tx etx => draw_ok (by decide) (by decide) fun k hk => ?_⟩
  have lt : tx.length ≤ 100 := by
    rw [etx, mul_len (m := 58 + n) (by omega), l1]
    omega
  have s1 : ("/7" : Str).length = 2 := by decide
  have s2 : ("7/" : Str).length = 2 := by decide
  have s3 : ("-" : Str).length = 1 := by decide
  refine ⟨fun _ => ⟨by omega, h _ (by rw [len_app]; omega)⟩, fun _ => ⟨fun _ => ⟨by omega, h _ (by rw [len_app]; omega)⟩, fun _ => ⟨fun _ => ⟨by omega, h _ (by rw [len_app]; omega)⟩, fun _ => h _ (by omega)⟩⟩⟩
theorem join_len {l : List Str} (h : ∀ y ∈ l, y.length ≤ 1) : (l.map (·.length)).sum ≤ l.length := by
  have := sum_le h
  omega
theorem ratioU_of {p : Int × Int} {t b : Int} {Q : Bool → Prop} {X : HE → Prop} (h : m__law_ratioR p t b Q X) : m__law_ratioU (some (.inl p)) t b Q X := ⟨p, rfl, h⟩
theorem law_pure : m_law (· = true) noX := by
  unfold m_law
  have hb : big = 100000 := rfl
  refine forD_all (fun _ _ nx hnx => ?_) rfl
  refine number_ok fun t ht => number_ok fun b0 hb0 => ?_
  refine joinD_inv (fun b : Int => b ≠ 0 ∧ b.natAbs ≤ 10 ^ 18) (fun b ⟨b1, b2⟩ => ?_) fun k hk => ⟨fun _ => hk _ ⟨by decide, by decide⟩, fun e => hk _ ⟨of_decide_eq_false e, hb0⟩⟩
  have big18 : (10 : Nat) ^ 18 ≤ 10 ^ 59 := by decide
  have big59 : (10 : Nat) ^ 59 < 10 ^ 60 := by decide
  refine rat_ok b1 (sm60 (Nat.le_trans b2 (by decide))) ?_
  have r1 := rat_sn1 b1 ht
  have r2 := rat_sn2 (t := t) b1 b2
  have low := rat_low (t := t) b1
  have val := rat_val (t := t) b1
  generalize ratD t b = r at r1 r2 low val ⊢
  obtain ⟨p, q⟩ := r
  dsimp only at r1 r2 val
  have hp : p.natAbs < 10 ^ 60 := by omega
  have hq : q.natAbs < 10 ^ 60 := by omega
  refine str_ok (Nat.le_of_lt hp) (Nat.le_of_lt hq) ?_
  have g : Good (strD (p, q)) p q := good_of low hp hq rfl
  have lx : (strD (p, q)).length ≤ 200 := by
    have q1 : 1 ≤ q := low.1
    rw [len_tl, tl_strD q1]
    have n1 := numL_len (n := p.natAbs) (k := 60) (by decide) hp
    have n2 := numL_len (n := q.natAbs) (k := 60) (by decide) hq
    rw [List.length_append]
    have a1 : (if p < 0 then [45] else ([] : List Nat)).length ≤ 1 := by split <;> simp
    have a2 : (if q = 1 then numL p.natAbs else numL p.natAbs ++ 47 :: numL q.natAbs).length ≤ 130 := by
      split
      · omega
      · rw [List.length_append, List.length_cons]; omega
    omega
  refine law_read_yes (by omega) g ?_
  refine ratioU_of (ratio_ok low (sm60 (Nat.le_of_lt hp)) (sm60 (Nat.le_of_lt hq)) (sm60 (Nat.le_trans ht (by decide))) (sm60 (Nat.le_trans b2 (by decide))) val ?_)
  refine ifD_f rfl ?_
  refine bent_ok lx fun y hy => right_ok hy (ifD_f rfl ?_)
  refine draw_ok (by decide) (by decide) fun m hm => ⟨⟨by omega, by omega⟩, ?_⟩
  rw [Int.toNat_natCast]
  refine mapD_inv (fun (_ : Int) (z : Str) => z.length = 1) (fun x hx k hk => ?_) fun ys hys => ?_
  · refine draw_ok (by decide) (by decide) fun s hs => ?_
    have lc : ("0123456789-/+ a" : Str).length = 15 := by decide
    obtain ⟨c, hc⟩ := sign_at (s := ("0123456789-/+ a" : Str)) (k := s) (by omega)
    exact ⟨c, hc, hk _ rfl⟩
  rw [List.nil_append]
  have yl : ys.length ≤ 7 ∧ ∀ y ∈ ys, y.length ≤ 1 := by
    have : ∀ {xs : List Int} {ys : List Str}, Paired (fun (_ : Int) (z : Str) => z.length = 1) xs ys → ys.length = xs.length ∧ ∀ y ∈ ys, y.length ≤ 1 := by
      intro xs ys h
      induction h with
      | nil => exact ⟨rfl, fun y hy => by cases hy⟩
      | cons h _ ih =>
        refine ⟨by rw [List.length_cons, List.length_cons, ih.1], fun y hy => ?_⟩
        rcases List.mem_cons.mp hy with e | e
        · rw [e]; omega
        · exact ih.2 y e
    obtain ⟨h1, h2⟩ := this hys
    rw [intsF_len] at h1
    exact ⟨by omega, h2⟩
  have l0 : ("" : Str).length = 0 := by decide
  have js := join_len yl.2
  have jl : (ys.map (·.length)).sum + ys.length * ("" : Str).length ≤ 7 := by rw [l0, Nat.mul_zero]; omega
  refine ⟨by omega, fun free ef => right_ok ?_ ⟨(fun e => by cases e), fun _ => long_ok fun z hz => right_ok hz (ifD_f rfl hnx)⟩⟩
  rw [ef]
  exact Nat.le_trans (L2.join_len ("" : Str) ys) (by omega)
end
theorem all_mk {P : Program} {w : World} {K : PySem.W.Frag} {h : Heap} {mg : Str → Option Value} {fa : Addr} (X : K.In h) (G : h.Ns mainGlobals mg) (hfa : mg "law" = some (.ref fa)) (top : (P.main.scope.names.lookup ("super" : Str)).isSome = false)
    {t_LONGEST : Tok}
    {t_DIGITS : Tok}
    {f__law_bag : Addr} {od__law_bag an__law_bag : Option Addr} {sl__law_bag : Array (Option Value)} {oc__law_bag kV__law_bag dc__law_bag pm__law_bag cd__law_bag ct__law_bag : Value}
    {f__law_draw : Addr} {od__law_draw an__law_draw : Option Addr} {sl__law_draw : Array (Option Value)} {oc__law_draw kV__law_draw dc__law_draw pm__law_draw cd__law_draw ct__law_draw : Value}
    {f_common_divisor : Addr} {od_common_divisor an_common_divisor : Option Addr} {sl_common_divisor : Array (Option Value)} {oc_common_divisor kV_common_divisor dc_common_divisor pm_common_divisor cd_common_divisor ct_common_divisor : Value}
    {f_is_figures : Addr} {od_is_figures an_is_figures : Option Addr} {sl_is_figures : Array (Option Value)} {oc_is_figures kV_is_figures dc_is_figures pm_is_figures cd_is_figures ct_is_figures : Value}
    {f__law_number : Addr} {od__law_number an__law_number : Option Addr} {sl__law_number : Array (Option Value)} {oc__law_number kV__law_number dc__law_number pm__law_number cd__law_number ct__law_number : Value}
    {f__law_divisor : Addr} {od__law_divisor an__law_divisor : Option Addr} {sl__law_divisor : Array (Option Value)} {oc__law_divisor kV__law_divisor dc__law_divisor pm__law_divisor cd__law_divisor ct__law_divisor : Value}
    {f__law_int : Addr} {od__law_int an__law_int : Option Addr} {sl__law_int : Array (Option Value)} {oc__law_int kV__law_int dc__law_int pm__law_int cd__law_int ct__law_int : Value}
    {f__law_ratio : Addr} {od__law_ratio an__law_ratio : Option Addr} {sl__law_ratio : Array (Option Value)} {oc__law_ratio kV__law_ratio dc__law_ratio pm__law_ratio cd__law_ratio ct__law_ratio : Value}
    {f__law_read : Addr} {od__law_read an__law_read : Option Addr} {sl__law_read : Array (Option Value)} {oc__law_read kV__law_read dc__law_read pm__law_read cd__law_read ct__law_read : Value}
    {f__law_figures : Addr} {od__law_figures an__law_figures : Option Addr} {sl__law_figures : Array (Option Value)} {oc__law_figures kV__law_figures dc__law_figures pm__law_figures cd__law_figures ct__law_figures : Value}
    {f__law_due : Addr} {od__law_due an__law_due : Option Addr} {sl__law_due : Array (Option Value)} {oc__law_due kV__law_due dc__law_due pm__law_due cd__law_due ct__law_due : Value}
    {f__law_right : Addr} {od__law_right an__law_right : Option Addr} {sl__law_right : Array (Option Value)} {oc__law_right kV__law_right dc__law_right pm__law_right cd__law_right ct__law_right : Value}
    {f__law_bent : Addr} {od__law_bent an__law_bent : Option Addr} {sl__law_bent : Array (Option Value)} {oc__law_bent kV__law_bent dc__law_bent pm__law_bent cd__law_bent ct__law_bent : Value}
    {f__law_long : Addr} {od__law_long an__law_long : Option Addr} {sl__law_long : Array (Option Value)} {oc__law_long kV__law_long dc__law_long pm__law_long cd__law_long ct__law_long : Value}
    {f_law : Addr} {od_law an_law : Option Addr} {sl_law : Array (Option Value)} {oc_law kV_law dc_law pm_law cd_law ct_law : Value}
    {C_BadNumber fI_BadNumber N_BadNumber cda_BadNumber cc_BadNumber : Addr} {nm_BadNumber q_BadNumber file_BadNumber : Str} {bs_BadNumber bm_BadNumber sub_BadNumber : List Value} {sn_BadNumber : List Str} {ab_BadNumber : Bool} {col_BadNumber : Option Bool} {dd_BadNumber od_BadNumber an_BadNumber cdd_BadNumber cld_BadNumber : Option Addr} {m0_BadNumber m1_BadNumber m2_BadNumber m3_BadNumber m5_BadNumber : Option Value} {oc_BadNumber kV_BadNumber dc_BadNumber pm_BadNumber ct_BadNumber ccl_BadNumber cl_BadNumber : Value} {sl_BadNumber ccs_BadNumber csl_BadNumber : Array (Option Value)} {vs_BadNumber : Array Value} {tf_BadNumber : Tok}
    {C_BadWord fI_BadWord N_BadWord cda_BadWord cc_BadWord : Addr} {nm_BadWord q_BadWord file_BadWord : Str} {bs_BadWord bm_BadWord sub_BadWord : List Value} {sn_BadWord : List Str} {ab_BadWord : Bool} {col_BadWord : Option Bool} {dd_BadWord od_BadWord an_BadWord cdd_BadWord cld_BadWord : Option Addr} {m0_BadWord m1_BadWord m2_BadWord m3_BadWord m5_BadWord : Option Value} {oc_BadWord kV_BadWord dc_BadWord pm_BadWord ct_BadWord ccl_BadWord cl_BadWord : Value} {sl_BadWord ccs_BadWord csl_BadWord : Array (Option Value)} {vs_BadWord : Array Value} {tf_BadWord : Tok}
    {C_Ratio : Addr}
    {f_Ratio___init__ : Addr} {od_Ratio___init__ an_Ratio___init__ : Option Addr} {sl_Ratio___init__ : Array (Option Value)} {oc_Ratio___init__ kV_Ratio___init__ dc_Ratio___init__ pm_Ratio___init__ cd_Ratio___init__ ct_Ratio___init__ : Value}
    {dT_Ratio___init__ : Addr} {dd_Ratio___init__ : Option Addr} {dsl_Ratio___init__ : Array (Option Value)} {doc_Ratio___init__ : Value} {dn_Ratio___init__ : Nat} {dk0_Ratio___init__ : Tok}
    {f_Ratio___str__ : Addr} {od_Ratio___str__ an_Ratio___str__ : Option Addr} {sl_Ratio___str__ : Array (Option Value)} {oc_Ratio___str__ kV_Ratio___str__ dc_Ratio___str__ pm_Ratio___str__ cd_Ratio___str__ ct_Ratio___str__ : Value}
    {f_Ratio_read : Addr} {od_Ratio_read an_Ratio_read : Option Addr} {sl_Ratio_read : Array (Option Value)} {oc_Ratio_read kV_Ratio_read dc_Ratio_read pm_Ratio_read cd_Ratio_read ct_Ratio_read : Value}
    {p_Ratio_read : Addr} {rs_Ratio_read : List Value}
    (z_len : PySem.W.nsIn K mainGlobals "len" = some none)
    (z_range : PySem.W.nsIn K mainGlobals "range" = some none)
    (z_abs : PySem.W.nsIn K mainGlobals "abs" = some none)
    (z_sum : PySem.W.nsIn K mainGlobals "sum" = some none)
    (z_sorted : PySem.W.nsIn K mainGlobals "sorted" = some none)
    (z_isinstance : PySem.W.nsIn K mainGlobals "isinstance" = some none)
    (z_zip : PySem.W.nsIn K mainGlobals "zip" = some none)
    (z_enumerate : PySem.W.nsIn K mainGlobals "enumerate" = some none)
    (z_reversed : PySem.W.nsIn K mainGlobals "reversed" = some none)
    (z_int : PySem.W.nsIn K mainGlobals "int" = some none)
    (z_str : PySem.W.nsIn K mainGlobals "str" = some none)
    (z_list : PySem.W.nsIn K mainGlobals "list" = some none)
    (z_tuple : PySem.W.nsIn K mainGlobals "tuple" = some none)
    (z_bool : PySem.W.nsIn K mainGlobals "bool" = some none)
    (z_all : PySem.W.nsIn K mainGlobals "all" = some none)
    (z_any : PySem.W.nsIn K mainGlobals "any" = some none)
    (z_ValueError : PySem.W.nsIn K mainGlobals "ValueError" = some none)
    (z_super : PySem.W.nsIn K mainGlobals "super" = some none)
    (a_LONGEST : PySem.W.nsIn K mainGlobals "LONGEST" = some (some (.int (60 : Int) t_LONGEST)))
    (a_DIGITS : PySem.W.nsIn K mainGlobals "DIGITS" = some (some (.str ("0123456789" : Str) t_DIGITS)))
    (a__law_bag : PySem.W.nsIn K mainGlobals "_law_bag" = some (some (.ref f__law_bag)))
    (l__law_bag : K.lookup f__law_bag = some ⟨oc__law_bag, od__law_bag, .func (PySem.W.fnOf "_law_bag" "_law_bag" (defArgs s__law_bag) (defBody s__law_bag) (defScope s__law_bag) .none kV__law_bag dc__law_bag pm__law_bag an__law_bag cd__law_bag ct__law_bag), sl__law_bag⟩)
    (c__law_bag : PySem.W.codeIn K cd__law_bag "_law_bag" = true)
    (k__law_bag : PySem.W.keepIn K (.ref f__law_bag) = true)
    (a__law_draw : PySem.W.nsIn K mainGlobals "_law_draw" = some (some (.ref f__law_draw)))
    (l__law_draw : K.lookup f__law_draw = some ⟨oc__law_draw, od__law_draw, .func (PySem.W.fnOf "_law_draw" "_law_draw" (defArgs s__law_draw) (defBody s__law_draw) (defScope s__law_draw) .none kV__law_draw dc__law_draw pm__law_draw an__law_draw cd__law_draw ct__law_draw), sl__law_draw⟩)
    (c__law_draw : PySem.W.codeIn K cd__law_draw "_law_draw" = true)
    (k__law_draw : PySem.W.keepIn K (.ref f__law_draw) = true)
    (a_common_divisor : PySem.W.nsIn K mainGlobals "common_divisor" = some (some (.ref f_common_divisor)))
    (l_common_divisor : K.lookup f_common_divisor = some ⟨oc_common_divisor, od_common_divisor, .func (PySem.W.fnOf "common_divisor" "common_divisor" (defArgs s_common_divisor) (defBody s_common_divisor) (defScope s_common_divisor) .none kV_common_divisor dc_common_divisor pm_common_divisor an_common_divisor cd_common_divisor ct_common_divisor), sl_common_divisor⟩)
    (c_common_divisor : PySem.W.codeIn K cd_common_divisor "common_divisor" = true)
    (k_common_divisor : PySem.W.keepIn K (.ref f_common_divisor) = true)
    (a_is_figures : PySem.W.nsIn K mainGlobals "is_figures" = some (some (.ref f_is_figures)))
    (l_is_figures : K.lookup f_is_figures = some ⟨oc_is_figures, od_is_figures, .func (PySem.W.fnOf "is_figures" "is_figures" (defArgs s_is_figures) (defBody s_is_figures) (defScope s_is_figures) .none kV_is_figures dc_is_figures pm_is_figures an_is_figures cd_is_figures ct_is_figures), sl_is_figures⟩)
    (c_is_figures : PySem.W.codeIn K cd_is_figures "is_figures" = true)
    (k_is_figures : PySem.W.keepIn K (.ref f_is_figures) = true)
    (a__law_number : PySem.W.nsIn K mainGlobals "_law_number" = some (some (.ref f__law_number)))
    (l__law_number : K.lookup f__law_number = some ⟨oc__law_number, od__law_number, .func (PySem.W.fnOf "_law_number" "_law_number" (defArgs s__law_number) (defBody s__law_number) (defScope s__law_number) .none kV__law_number dc__law_number pm__law_number an__law_number cd__law_number ct__law_number), sl__law_number⟩)
    (c__law_number : PySem.W.codeIn K cd__law_number "_law_number" = true)
    (k__law_number : PySem.W.keepIn K (.ref f__law_number) = true)
    (a__law_divisor : PySem.W.nsIn K mainGlobals "_law_divisor" = some (some (.ref f__law_divisor)))
    (l__law_divisor : K.lookup f__law_divisor = some ⟨oc__law_divisor, od__law_divisor, .func (PySem.W.fnOf "_law_divisor" "_law_divisor" (defArgs s__law_divisor) (defBody s__law_divisor) (defScope s__law_divisor) .none kV__law_divisor dc__law_divisor pm__law_divisor an__law_divisor cd__law_divisor ct__law_divisor), sl__law_divisor⟩)
    (c__law_divisor : PySem.W.codeIn K cd__law_divisor "_law_divisor" = true)
    (k__law_divisor : PySem.W.keepIn K (.ref f__law_divisor) = true)
    (a__law_int : PySem.W.nsIn K mainGlobals "_law_int" = some (some (.ref f__law_int)))
    (l__law_int : K.lookup f__law_int = some ⟨oc__law_int, od__law_int, .func (PySem.W.fnOf "_law_int" "_law_int" (defArgs s__law_int) (defBody s__law_int) (defScope s__law_int) .none kV__law_int dc__law_int pm__law_int an__law_int cd__law_int ct__law_int), sl__law_int⟩)
    (c__law_int : PySem.W.codeIn K cd__law_int "_law_int" = true)
    (k__law_int : PySem.W.keepIn K (.ref f__law_int) = true)
    (a__law_ratio : PySem.W.nsIn K mainGlobals "_law_ratio" = some (some (.ref f__law_ratio)))
    (l__law_ratio : K.lookup f__law_ratio = some ⟨oc__law_ratio, od__law_ratio, .func (PySem.W.fnOf "_law_ratio" "_law_ratio" (defArgs s__law_ratio) (defBody s__law_ratio) (defScope s__law_ratio) .none kV__law_ratio dc__law_ratio pm__law_ratio an__law_ratio cd__law_ratio ct__law_ratio), sl__law_ratio⟩)
    (c__law_ratio : PySem.W.codeIn K cd__law_ratio "_law_ratio" = true)
    (k__law_ratio : PySem.W.keepIn K (.ref f__law_ratio) = true)
    (a__law_read : PySem.W.nsIn K mainGlobals "_law_read" = some (some (.ref f__law_read)))
    (l__law_read : K.lookup f__law_read = some ⟨oc__law_read, od__law_read, .func (PySem.W.fnOf "_law_read" "_law_read" (defArgs s__law_read) (defBody s__law_read) (defScope s__law_read) .none kV__law_read dc__law_read pm__law_read an__law_read cd__law_read ct__law_read), sl__law_read⟩)
    (c__law_read : PySem.W.codeIn K cd__law_read "_law_read" = true)
    (k__law_read : PySem.W.keepIn K (.ref f__law_read) = true)
    (a__law_figures : PySem.W.nsIn K mainGlobals "_law_figures" = some (some (.ref f__law_figures)))
    (l__law_figures : K.lookup f__law_figures = some ⟨oc__law_figures, od__law_figures, .func (PySem.W.fnOf "_law_figures" "_law_figures" (defArgs s__law_figures) (defBody s__law_figures) (defScope s__law_figures) .none kV__law_figures dc__law_figures pm__law_figures an__law_figures cd__law_figures ct__law_figures), sl__law_figures⟩)
    (c__law_figures : PySem.W.codeIn K cd__law_figures "_law_figures" = true)
    (k__law_figures : PySem.W.keepIn K (.ref f__law_figures) = true)
    (a__law_due : PySem.W.nsIn K mainGlobals "_law_due" = some (some (.ref f__law_due)))
    (l__law_due : K.lookup f__law_due = some ⟨oc__law_due, od__law_due, .func (PySem.W.fnOf "_law_due" "_law_due" (defArgs s__law_due) (defBody s__law_due) (defScope s__law_due) .none kV__law_due dc__law_due pm__law_due an__law_due cd__law_due ct__law_due), sl__law_due⟩)
    (c__law_due : PySem.W.codeIn K cd__law_due "_law_due" = true)
    (k__law_due : PySem.W.keepIn K (.ref f__law_due) = true)
    (a__law_right : PySem.W.nsIn K mainGlobals "_law_right" = some (some (.ref f__law_right)))
    (l__law_right : K.lookup f__law_right = some ⟨oc__law_right, od__law_right, .func (PySem.W.fnOf "_law_right" "_law_right" (defArgs s__law_right) (defBody s__law_right) (defScope s__law_right) .none kV__law_right dc__law_right pm__law_right an__law_right cd__law_right ct__law_right), sl__law_right⟩)
    (c__law_right : PySem.W.codeIn K cd__law_right "_law_right" = true)
    (k__law_right : PySem.W.keepIn K (.ref f__law_right) = true)
    (a__law_bent : PySem.W.nsIn K mainGlobals "_law_bent" = some (some (.ref f__law_bent)))
    (l__law_bent : K.lookup f__law_bent = some ⟨oc__law_bent, od__law_bent, .func (PySem.W.fnOf "_law_bent" "_law_bent" (defArgs s__law_bent) (defBody s__law_bent) (defScope s__law_bent) .none kV__law_bent dc__law_bent pm__law_bent an__law_bent cd__law_bent ct__law_bent), sl__law_bent⟩)
    (c__law_bent : PySem.W.codeIn K cd__law_bent "_law_bent" = true)
    (k__law_bent : PySem.W.keepIn K (.ref f__law_bent) = true)
    (a__law_long : PySem.W.nsIn K mainGlobals "_law_long" = some (some (.ref f__law_long)))
    (l__law_long : K.lookup f__law_long = some ⟨oc__law_long, od__law_long, .func (PySem.W.fnOf "_law_long" "_law_long" (defArgs s__law_long) (defBody s__law_long) (defScope s__law_long) .none kV__law_long dc__law_long pm__law_long an__law_long cd__law_long ct__law_long), sl__law_long⟩)
    (c__law_long : PySem.W.codeIn K cd__law_long "_law_long" = true)
    (k__law_long : PySem.W.keepIn K (.ref f__law_long) = true)
    (a_law : PySem.W.nsIn K mainGlobals "law" = some (some (.ref f_law)))
    (l_law : K.lookup f_law = some ⟨oc_law, od_law, .func (PySem.W.fnOf "law" "law" (defArgs s_law) (defBody s_law) (defScope s_law) .none kV_law dc_law pm_law an_law cd_law ct_law), sl_law⟩)
    (c_law : PySem.W.codeIn K cd_law "law" = true)
    (k_law : PySem.W.keepIn K (.ref f_law) = true)
    (e_opq : PySem.W.nsIn K cStatics "thirdparty.any" = some none)
    (e_cg : PySem.W.specialIn K (.builtin "object.__class__") "__get__" = some (some (.builtin "getset_descriptor.__get__")))
    (e_ct : PySem.W.takesIn K (.builtin "object.__class__") = some true)
    (aC_BadNumber : PySem.W.nsIn K mainGlobals "BadNumber" = some (some (.ref C_BadNumber)))
    (xL_BadNumber : K.lookup C_BadNumber = some (excClassObj nm_BadNumber q_BadNumber C_BadNumber N_BadNumber bs_BadNumber bm_BadNumber true sn_BadNumber sub_BadNumber ab_BadNumber col_BadNumber dd_BadNumber m0_BadNumber m1_BadNumber m2_BadNumber m3_BadNumber m5_BadNumber "ValueError.__new__"))
    (bm_BadNumber : PySem.HandSPX.refsVE bm_BadNumber = true)
    (sa_BadNumber : PySem.W.findIn K (.ref C_BadNumber) "__setattr__" = some (some (.builtin "object.__setattr__")))
    (ga_BadNumber : PySem.W.findIn K (.ref C_BadNumber) "__getattribute__" = some (some (.builtin "BaseException.__getattribute__")))
    (gg_BadNumber : PySem.W.findIn K (.ref C_BadNumber) "__getattr__" = some none)
    (no_number_BadNumber : PySem.W.findIn K (.ref C_BadNumber) "number" = some none)
    (iC_BadNumber : PySem.W.findIn K (.ref C_BadNumber) "__init__" = some (some (.ref fI_BadNumber)))
    (tI_BadNumber : PySem.W.typeIn K (.ref fI_BadNumber) = some (.type "function"))
    (kC_BadNumber : PySem.W.keepIn K (.ref C_BadNumber) = true)
    (ex_BadNumber : PySem.W.subIn K (.ref C_BadNumber) (.type "BaseException") = some true)
    (ve_BadNumber : PySem.W.subIn K (.ref C_BadNumber) (.type "ValueError") = some true)
    (ty_BadNumber : PySem.W.typeIn K (.ref C_BadNumber) = some (.type "type"))
    (hd_BadNumber : PySem.W.hasDictIn K C_BadNumber = true)
    (sup_BadNumber : PySem.W.ks_superIn K C_BadNumber C_BadNumber "__init__" = some (some (.builtin "ValueError.__init__")))
    (mro_BadNumber : PySem.W.mroIn K C_BadNumber (.ref C_BadNumber) = some true)
    (su_BadNumber : PySem.W.subIn K (.ref C_BadNumber) (.ref C_BadNumber) = some true)
    (ca_BadNumber : PySem.W.findIn K (.ref C_BadNumber) "__class__" = some (some (.builtin "object.__class__")))
    (mo_BadNumber : PySem.W.mroIn K C_BadNumber (.type "object") = some true)
    (l_BadNumber : K.lookup fI_BadNumber = some ⟨oc_BadNumber, od_BadNumber, .func (PySem.W.ksFn "__init__" "BadNumber.__init__" (defArgs (inClass (topS 4) 0)) (defBody (inClass (topS 4) 0)) (defScope (inClass (topS 4) 0)) .none kV_BadNumber dc_BadNumber pm_BadNumber an_BadNumber (.ref cda_BadNumber) ct_BadNumber cc_BadNumber), sl_BadNumber⟩)
    (c_BadNumber : PySem.W.codeIn K (.ref cda_BadNumber) "BadNumber.__init__" = true)
    (lc_BadNumber : K.lookup cda_BadNumber = some ⟨ccl_BadNumber, cdd_BadNumber, .fields vs_BadNumber, ccs_BadNumber⟩)
    (v2_BadNumber : vs_BadNumber[2]? = some (.str file_BadNumber tf_BadNumber))
    (fl_BadNumber : ((P.main.file : Str) == file_BadNumber) = true)
    (cc_BadNumber : K.lookup cc_BadNumber = some ⟨cl_BadNumber, cld_BadNumber, .cell (some (.ref C_BadNumber)), csl_BadNumber⟩)
    (aC_BadWord : PySem.W.nsIn K mainGlobals "BadWord" = some (some (.ref C_BadWord)))
    (xL_BadWord : K.lookup C_BadWord = some (excClassObj nm_BadWord q_BadWord C_BadWord N_BadWord bs_BadWord bm_BadWord true sn_BadWord sub_BadWord ab_BadWord col_BadWord dd_BadWord m0_BadWord m1_BadWord m2_BadWord m3_BadWord m5_BadWord "ValueError.__new__"))
    (bm_BadWord : PySem.HandSPX.refsVE bm_BadWord = true)
    (sa_BadWord : PySem.W.findIn K (.ref C_BadWord) "__setattr__" = some (some (.builtin "object.__setattr__")))
    (ga_BadWord : PySem.W.findIn K (.ref C_BadWord) "__getattribute__" = some (some (.builtin "BaseException.__getattribute__")))
    (gg_BadWord : PySem.W.findIn K (.ref C_BadWord) "__getattr__" = some none)
    (no_word_BadWord : PySem.W.findIn K (.ref C_BadWord) "word" = some none)
    (iC_BadWord : PySem.W.findIn K (.ref C_BadWord) "__init__" = some (some (.ref fI_BadWord)))
    (tI_BadWord : PySem.W.typeIn K (.ref fI_BadWord) = some (.type "function"))
    (kC_BadWord : PySem.W.keepIn K (.ref C_BadWord) = true)
    (ex_BadWord : PySem.W.subIn K (.ref C_BadWord) (.type "BaseException") = some true)
    (ve_BadWord : PySem.W.subIn K (.ref C_BadWord) (.type "ValueError") = some true)
    (ty_BadWord : PySem.W.typeIn K (.ref C_BadWord) = some (.type "type"))
    (hd_BadWord : PySem.W.hasDictIn K C_BadWord = true)
    (sup_BadWord : PySem.W.ks_superIn K C_BadWord C_BadWord "__init__" = some (some (.builtin "ValueError.__init__")))
    (mro_BadWord : PySem.W.mroIn K C_BadWord (.ref C_BadWord) = some true)
    (su_BadWord : PySem.W.subIn K (.ref C_BadWord) (.ref C_BadWord) = some true)
    (ca_BadWord : PySem.W.findIn K (.ref C_BadWord) "__class__" = some (some (.builtin "object.__class__")))
    (mo_BadWord : PySem.W.mroIn K C_BadWord (.type "object") = some true)
    (l_BadWord : K.lookup fI_BadWord = some ⟨oc_BadWord, od_BadWord, .func (PySem.W.ksFn "__init__" "BadWord.__init__" (defArgs (inClass (topS 3) 0)) (defBody (inClass (topS 3) 0)) (defScope (inClass (topS 3) 0)) .none kV_BadWord dc_BadWord pm_BadWord an_BadWord (.ref cda_BadWord) ct_BadWord cc_BadWord), sl_BadWord⟩)
    (c_BadWord : PySem.W.codeIn K (.ref cda_BadWord) "BadWord.__init__" = true)
    (lc_BadWord : K.lookup cda_BadWord = some ⟨ccl_BadWord, cdd_BadWord, .fields vs_BadWord, ccs_BadWord⟩)
    (v2_BadWord : vs_BadWord[2]? = some (.str file_BadWord tf_BadWord))
    (fl_BadWord : ((P.main.file : Str) == file_BadWord) = true)
    (cc_BadWord : K.lookup cc_BadWord = some ⟨cl_BadWord, cld_BadWord, .cell (some (.ref C_BadWord)), csl_BadWord⟩)
    (aC_Ratio : PySem.W.nsIn K mainGlobals "Ratio" = some (some (.ref C_Ratio)))
    (pg_Ratio : PySem.W.plainGet K C_Ratio Str.empty = true)
    (hd_Ratio : PySem.W.hasDictIn K C_Ratio = true)
    (po_Ratio : PySem.W.plainOver K C_Ratio = true)
    (sa_Ratio : PySem.W.findIn K (.ref C_Ratio) "__setattr__" = some (some (.builtin "object.__setattr__")))
    (no_top_Ratio : PySem.W.findIn K (.ref C_Ratio) "top" = some none)
    (no_bottom_Ratio : PySem.W.findIn K (.ref C_Ratio) "bottom" = some none)
    (ca_Ratio : PySem.W.findIn K (.ref C_Ratio) "__class__" = some (some (.builtin "object.__class__")))
    (mo_Ratio : PySem.W.mroIn K C_Ratio (.type "object") = some true)
    (mk_Ratio : PySem.W.makesIn K C_Ratio = true)
    (kC_Ratio : PySem.W.keepIn K (.ref C_Ratio) = true)
    (a_Ratio___init__ : PySem.W.findIn K (.ref C_Ratio) "__init__" = some (some (.ref f_Ratio___init__)))
    (i_Ratio___init__ : PySem.W.isFn K (.ref f_Ratio___init__) = true)
    (l_Ratio___init__ : K.lookup f_Ratio___init__ = some ⟨oc_Ratio___init__, od_Ratio___init__, .func (PySem.W.fnOf "__init__" "Ratio.__init__" (defArgs s_Ratio___init__) (defBody s_Ratio___init__) (defScope s_Ratio___init__) (.ref dT_Ratio___init__) kV_Ratio___init__ dc_Ratio___init__ pm_Ratio___init__ an_Ratio___init__ cd_Ratio___init__ ct_Ratio___init__), sl_Ratio___init__⟩)
    (c_Ratio___init__ : PySem.W.codeIn K cd_Ratio___init__ "Ratio.__init__" = true)
    (k_Ratio___init__ : PySem.W.keepIn K (.ref f_Ratio___init__) = true)
    (dl_Ratio___init__ : K.lookup dT_Ratio___init__ = some ⟨doc_Ratio___init__, dd_Ratio___init__, .seq #[.int 1 dk0_Ratio___init__] dn_Ratio___init__, dsl_Ratio___init__⟩)
    (a_Ratio___str__ : PySem.W.findIn K (.ref C_Ratio) "__str__" = some (some (.ref f_Ratio___str__)))
    (i_Ratio___str__ : PySem.W.isFn K (.ref f_Ratio___str__) = true)
    (l_Ratio___str__ : K.lookup f_Ratio___str__ = some ⟨oc_Ratio___str__, od_Ratio___str__, .func (PySem.W.fnOf "__str__" "Ratio.__str__" (defArgs s_Ratio___str__) (defBody s_Ratio___str__) (defScope s_Ratio___str__) .none kV_Ratio___str__ dc_Ratio___str__ pm_Ratio___str__ an_Ratio___str__ cd_Ratio___str__ ct_Ratio___str__), sl_Ratio___str__⟩)
    (c_Ratio___str__ : PySem.W.codeIn K cd_Ratio___str__ "Ratio.__str__" = true)
    (k_Ratio___str__ : PySem.W.keepIn K (.ref f_Ratio___str__) = true)
    (rd_Ratio_read : PySem.W.readsIn K C_Ratio (.type "type") = true)
    (ga_Ratio_read : PySem.W.specialIn K (.ref C_Ratio) "__getattribute__" = some (some (.builtin "type.__getattribute__")))
    (a_Ratio_read : PySem.W.findCls K (.ref C_Ratio) (.type "type") "read" = some (.get (.builtin "staticmethod.__get__") (.ref p_Ratio_read) .none (.ref C_Ratio)))
    (b_Ratio_read : PySem.W.recIn K p_Ratio_read "staticmethod" = some (.ref f_Ratio_read :: rs_Ratio_read))
    (l_Ratio_read : K.lookup f_Ratio_read = some ⟨oc_Ratio_read, od_Ratio_read, .func (PySem.W.fnOf "read" "Ratio.read" (defArgs s_Ratio_read) (defBody s_Ratio_read) (defScope s_Ratio_read) .none kV_Ratio_read dc_Ratio_read pm_Ratio_read an_Ratio_read cd_Ratio_read ct_Ratio_read), sl_Ratio_read⟩)
    (c_Ratio_read : PySem.W.codeIn K cd_Ratio_read "Ratio.read" = true)
    (k_Ratio_read : PySem.W.keepIn K (.ref f_Ratio_read) = true)
    (k1_Ratio : PySem.W.kitOne K (.ref C_Ratio) (.ref C_Ratio) = some true)
    (k2_Ratio : PySem.W.kitOne K (.type "int") (.ref C_Ratio) = some false)
    (k3_Ratio : PySem.W.kitAny K (.ref C_Ratio) [.ref C_Ratio, .type "int"] = some true)
    (k4_Ratio : PySem.W.kitAny K (.type "int") [.ref C_Ratio, .type "int"] = some true)
    (si_Ratio : PySem.W.subIn K (.type "int") (.ref C_Ratio) = some false)
    (is_Ratio : PySem.W.subIn K (.ref C_Ratio) (.type "int") = some false) :
    ∃ fd : FuncData, (∀ (s : Shared) (v : Value), BindsTo s fd ⟨[v], []⟩ [("_law_script", v)]) ∧ ∀ base : Heap, K.In base → base.Ns mainGlobals mg → FnOk P w K mg base CX0 7 fa fd ["_law_script"] (spLaw K) := by
  have e := hfa.symm.trans (PySem.W.mg_of X G a_law)
  cases e
  have B : Bl mg := ⟨PySem.W.mg_none_of X G z_len, PySem.W.mg_none_of X G z_range, PySem.W.mg_none_of X G z_abs, PySem.W.mg_none_of X G z_sum, PySem.W.mg_none_of X G z_sorted, PySem.W.mg_none_of X G z_isinstance, PySem.W.mg_none_of X G z_zip, PySem.W.mg_none_of X G z_enumerate, PySem.W.mg_none_of X G z_reversed, PySem.W.mg_none_of X G z_int, PySem.W.mg_none_of X G z_str, PySem.W.mg_none_of X G z_list, PySem.W.mg_none_of X G z_tuple, PySem.W.mg_none_of X G z_bool, PySem.W.mg_none_of X G z_all, PySem.W.mg_none_of X G z_any, PySem.W.mg_none_of X G z_ValueError⟩
  have g_LONGEST := glo_int X G a_LONGEST
  have g_DIGITS := glo_str X G a_DIGITS
  have F__law_bag : Src K mg "_law_bag" s__law_bag ["_law_script"] := src_mk X G a__law_bag l__law_bag c__law_bag k__law_bag (fun _ _ _ _ _ _ us hl => match us, hl with | [_], _ => rfl)
  have F__law_draw : Src K mg "_law_draw" s__law_draw ["_law_bag_here", "_law_many"] := src_mk X G a__law_draw l__law_draw c__law_draw k__law_draw (fun _ _ _ _ _ _ us hl => match us, hl with | [_, _], _ => rfl)
  have F_common_divisor : Src K mg "common_divisor" s_common_divisor ["first", "second"] := src_mk X G a_common_divisor l_common_divisor c_common_divisor k_common_divisor (fun _ _ _ _ _ _ us hl => match us, hl with | [_, _], _ => rfl)
  have F_is_figures : Src K mg "is_figures" s_is_figures ["text"] := src_mk X G a_is_figures l_is_figures c_is_figures k_is_figures (fun _ _ _ _ _ _ us hl => match us, hl with | [_], _ => rfl)
  have F__law_number : Src K mg "_law_number" s__law_number ["_law_bag_here"] := src_mk X G a__law_number l__law_number c__law_number k__law_number (fun _ _ _ _ _ _ us hl => match us, hl with | [_], _ => rfl)
  have F__law_divisor : Src K mg "_law_divisor" s__law_divisor ["_law_first", "_law_second"] := src_mk X G a__law_divisor l__law_divisor c__law_divisor k__law_divisor (fun _ _ _ _ _ _ us hl => match us, hl with | [_, _], _ => rfl)
  have F__law_int : Src K mg "_law_int" s__law_int ["_law_told"] := src_mk X G a__law_int l__law_int c__law_int k__law_int (fun _ _ _ _ _ _ us hl => match us, hl with | [_], _ => rfl)
  have F__law_ratio : Src K mg "_law_ratio" s__law_ratio ["_law_told", "_law_top", "_law_bottom"] := src_mk X G a__law_ratio l__law_ratio c__law_ratio k__law_ratio (fun _ _ _ _ _ _ us hl => match us, hl with | [_, _, _], _ => rfl)
  have F__law_read : Src K mg "_law_read" s__law_read ["_law_text"] := src_mk X G a__law_read l__law_read c__law_read k__law_read (fun _ _ _ _ _ _ us hl => match us, hl with | [_], _ => rfl)
  have F__law_figures : Src K mg "_law_figures" s__law_figures ["_law_text"] := src_mk X G a__law_figures l__law_figures c__law_figures k__law_figures (fun _ _ _ _ _ _ us hl => match us, hl with | [_], _ => rfl)
  have F__law_due : Src K mg "_law_due" s__law_due ["_law_text"] := src_mk X G a__law_due l__law_due c__law_due k__law_due (fun _ _ _ _ _ _ us hl => match us, hl with | [_], _ => rfl)
  have F__law_right : Src K mg "_law_right" s__law_right ["_law_text"] := src_mk X G a__law_right l__law_right c__law_right k__law_right (fun _ _ _ _ _ _ us hl => match us, hl with | [_], _ => rfl)
  have F__law_bent : Src K mg "_law_bent" s__law_bent ["_law_bag_here", "_law_text"] := src_mk X G a__law_bent l__law_bent c__law_bent k__law_bent (fun _ _ _ _ _ _ us hl => match us, hl with | [_, _], _ => rfl)
  have F__law_long : Src K mg "_law_long" s__law_long ["_law_bag_here"] := src_mk X G a__law_long l__law_long c__law_long k__law_long (fun _ _ _ _ _ _ us hl => match us, hl with | [_], _ => rfl)
  have nn_BadNumber : ∀ f ∈ (["number"] : List Str), PySem.W.findIn K (.ref C_BadNumber) f = some none := fun f hf => by
      simp only [List.mem_cons, List.not_mem_nil, or_false] at hf
      rcases hf with rfl
      · exact no_number_BadNumber
  have X_BadNumber : ErrTxt P K mg false "BadNumber" C_BadNumber fI_BadNumber ["number"] := err_mk (st := inClass (topS 4) 0) (fp := [("number", _, _, _, _)]) X G aC_BadNumber z_super xL_BadNumber bm_BadNumber sa_BadNumber ga_BadNumber gg_BadNumber nn_BadNumber
    iC_BadNumber tI_BadNumber kC_BadNumber ex_BadNumber ve_BadNumber ty_BadNumber hd_BadNumber sup_BadNumber mro_BadNumber su_BadNumber ca_BadNumber e_cg e_ct mo_BadNumber e_opq top l_BadNumber c_BadNumber lc_BadNumber v2_BadNumber fl_BadNumber cc_BadNumber rfl rfl rfl rfl (by decide +kernel) (by decide +kernel) (by decide +kernel) (by decide +kernel) (by decide +kernel) (by decide +kernel) (by decide +kernel) rfl rfl rfl
    (fun _ _ _ _ _ _ _ s x us hl => match us, hl with | [_], _ => .of_eq rfl) (fun x us hl => match us, hl with | [_], _ => ⟨by rfl, .cons (by rfl) (.nil)⟩) (.inl ⟨rfl, _, _, _, rfl⟩)
  have nn_BadWord : ∀ f ∈ (["word"] : List Str), PySem.W.findIn K (.ref C_BadWord) f = some none := fun f hf => by
      simp only [List.mem_cons, List.not_mem_nil, or_false] at hf
      rcases hf with rfl
      · exact no_word_BadWord
  have X_BadWord : ErrTxt P K mg false "BadWord" C_BadWord fI_BadWord ["word"] := err_mk (st := inClass (topS 3) 0) (fp := [("word", _, _, _, _)]) X G aC_BadWord z_super xL_BadWord bm_BadWord sa_BadWord ga_BadWord gg_BadWord nn_BadWord
    iC_BadWord tI_BadWord kC_BadWord ex_BadWord ve_BadWord ty_BadWord hd_BadWord sup_BadWord mro_BadWord su_BadWord ca_BadWord e_cg e_ct mo_BadWord e_opq top l_BadWord c_BadWord lc_BadWord v2_BadWord fl_BadWord cc_BadWord rfl rfl rfl rfl (by decide +kernel) (by decide +kernel) (by decide +kernel) (by decide +kernel) (by decide +kernel) (by decide +kernel) (by decide +kernel) rfl rfl rfl
    (fun _ _ _ _ _ _ _ s x us hl => match us, hl with | [_], _ => .of_eq rfl) (fun x us hl => match us, hl with | [_], _ => ⟨by rfl, .cons (by rfl) (.nil)⟩) (.inl ⟨rfl, _, _, _, rfl⟩)
  have FI_Ratio : SrcI K C_Ratio "Ratio.__init__" s_Ratio___init__ ["self", "top", "bottom"] := srcID_mk (dvs := [(.int 1)]) (its := [.int 1 dk0_Ratio___init__]) mk_Ratio kC_Ratio a_Ratio___init__ i_Ratio___init__ l_Ratio___init__ c_Ratio___init__ k_Ratio___init__ dl_Ratio___init__ (.cons ⟨_, rfl⟩ (.nil)) (by simp) (fun _ _ _ _ _ _ _ us its h1 h2 => match us, its, h1, h2 with | [_, _, _], [_], _, _ => ⟨_, rfl, rfl⟩)
  have LI_Ratio : DflI K C_Ratio ["self", "top", "bottom"] [(.int 1)] := dflI_mk (its := [.int 1 dk0_Ratio___init__]) 2 a_Ratio___init__ l_Ratio___init__ c_Ratio___init__ k_Ratio___init__ dl_Ratio___init__ (.cons ⟨_, rfl⟩ (.nil)) (by simp) (by decide) (fun _ _ _ _ _ _ _ us its h1 h2 => match us, its, h1, h2 with | [_, _], [_], _, _ => ⟨_, rfl, rfl⟩)
  have FM_Ratio___str__ : SrcM K C_Ratio "__str__" "Ratio.__str__" s_Ratio___str__ ["self"] := srcM_mk a_Ratio___str__ i_Ratio___str__ l_Ratio___str__ c_Ratio___str__ k_Ratio___str__ (fun _ _ _ _ _ _ us hl => match us, hl with | [_], _ => rfl)
  have g_Ratio := glo_ref X G aC_Ratio
  have FM_Ratio_read : SrcS K C_Ratio "read" "Ratio.read" s_Ratio_read ["text"] := srcS_mk rd_Ratio_read ga_Ratio_read a_Ratio_read b_Ratio_read l_Ratio_read c_Ratio_read k_Ratio_read (fun _ _ _ _ _ _ us hl => match us, hl with | [_], _ => rfl)
  have m_Ratio := PySem.W.mg_of X G aC_Ratio
  have CL_Ratio : Cls K C_Ratio := ⟨pg_Ratio, hd_Ratio, po_Ratio, sa_Ratio⟩
  have no_Ratio : ∀ f ∈ (["top", "bottom"] : List Str), NoAttr K C_Ratio f := fun f hf => by
    simp only [List.mem_cons, List.not_mem_nil, or_false] at hf
    rcases hf with rfl | rfl
    · exact no_top_Ratio
    · exact no_bottom_Ratio
  have T_Ratio : ClsA K mg C_Ratio "Ratio" ["top", "bottom"] := ⟨⟨CL_Ratio, no_Ratio⟩, m_Ratio, ⟨CL_Ratio, ca_Ratio, e_cg, e_ct, mo_Ratio⟩, k1_Ratio, k2_Ratio, k3_Ratio, k4_Ratio, ⟨si_Ratio, is_Ratio⟩⟩
  refine ⟨PySem.W.fnOf "law" "law" (defArgs s_law) (defBody s_law) (defScope s_law) .none kV_law dc_law pm_law an_law cd_law ct_law, fun s v => .of_eq rfl, fun base hK hN => ?_⟩
  obtain ⟨cs, hcs⟩ : ∃ cs : EK → Addr, cs = fun k => match k with | .tooMany => C_BadNumber | .badWord => C_BadWord | .double => C_BadNumber | .badNumber => C_BadNumber | .empty => C_BadNumber | .unknown => C_BadNumber | .inUse => C_BadNumber | .badState => C_BadNumber | .notReady => C_BadNumber | .notSound => C_BadNumber | .badPair => C_BadNumber | .badText => C_BadNumber | .noUndo => C_BadNumber := ⟨_, rfl⟩
  have X_BadNumber : ErrTxt P K mg false "BadNumber" (cs .badNumber) fI_BadNumber ["number"] := by rw [hcs]; exact X_BadNumber
  have X_BadWord : ErrTxt P K mg false "BadWord" (cs .badWord) fI_BadWord ["word"] := by rw [hcs]; exact X_BadWord
  have D__law_bag := ok__law_bag (P := P) (w := w) (base := base) (k := 0) B F__law_bag
  have D__law_draw := ok__law_draw (P := P) (w := w) (base := base) (k := 0) B F__law_draw
  have D_common_divisor := ok_common_divisor (P := P) (w := w) (base := base) (cs := cs) (k := 0) B  F_common_divisor
  have DI_Ratio := ok_Ratio___init__ (P := P) (w := w) (base := base) (cs := cs) (k := 1) B T_Ratio (D_common_divisor.mono (by decide)) X_BadNumber FI_Ratio
  have DM_Ratio___str__ := ok_Ratio___str__ (P := P) (w := w) (base := base) (cs := cs) (k := 0) B T_Ratio FM_Ratio___str__
  have D_is_figures := ok_is_figures (P := P) (w := w) (base := base) (cs := cs) (k := 0) B g_LONGEST g_DIGITS F_is_figures
  have DM_Ratio_read := ok_Ratio_read (P := P) (w := w) (base := base) (cs := cs) (k := 2) B (D_is_figures.mono (by decide)) X_BadWord m_Ratio (DI_Ratio.mono (by decide)) (DM_Ratio___str__.mono (by decide)) FM_Ratio_read
  have D__law_number := ok__law_number (P := P) (w := w) (base := base) (cs := cs) (k := 1) B (D__law_draw.mono (by decide)) F__law_number
  have D__law_divisor := ok__law_divisor (P := P) (w := w) (base := base) (cs := cs) (k := 0) B  F__law_divisor
  have D__law_int := ok__law_int (P := P) (w := w) (base := base) (cs := cs) (k := 0) B  F__law_int
  have D__law_ratioR := ok__law_ratioR (P := P) (w := w) (base := base) (cs := cs) (k := 1) B T_Ratio (D__law_int.mono (by decide)) (D__law_divisor.mono (by decide)) F__law_ratio
  have D__law_ratioU := ok__law_ratioU (P := P) (w := w) (base := base) (cs := cs) (k := 1) B T_Ratio (D__law_int.mono (by decide)) (D__law_divisor.mono (by decide)) F__law_ratio
  have D__law_read := ok__law_read (P := P) (w := w) (base := base) (cs := cs) (k := 4) B (DM_Ratio_read.mono (by decide)) g_Ratio X_BadWord F__law_read
  have D__law_figures := ok__law_figures (P := P) (w := w) (base := base) (cs := cs) (k := 0) B  F__law_figures
  have D__law_due := ok__law_due (P := P) (w := w) (base := base) (cs := cs) (k := 1) B (D__law_figures.mono (by decide)) (D__law_divisor.mono (by decide)) F__law_due
  have D__law_right := ok__law_right (P := P) (w := w) (base := base) (cs := cs) (k := 4) B (D__law_due.mono (by decide)) (D__law_read.mono (by decide)) (D__law_ratioR.mono (by decide)) (DM_Ratio___str__.mono (by decide)) F__law_right
  have D__law_bent := ok__law_bent (P := P) (w := w) (base := base) (cs := cs) (k := 1) B (D__law_draw.mono (by decide)) F__law_bent
  have D__law_long := ok__law_long (P := P) (w := w) (base := base) (cs := cs) (k := 1) B (D__law_draw.mono (by decide)) F__law_long
  exact ok_law (P := P) (w := w) (base := base) (cs := cs) (k := 5) B (D__law_number.mono (by decide)) (D__law_ratioU.mono (by decide)) (D__law_read.mono (by decide)) (D__law_right.mono (by decide)) (D__law_bent.mono (by decide)) (D__law_draw.mono (by decide)) (D__law_long.mono (by decide)) m_Ratio (DI_Ratio.mono (by decide)) (DM_Ratio___str__.mono (by decide)) (D__law_bag.mono (by decide)) (fun_mk l_law c_law k_law) law_pure
theorem walk {l : PySem.W.OpenLaw} {q : Program} {loose : List Str} {XP : (Str → Option Value) → Heap → Prop} {YP : World → Heap → Prop} {d : DefRec} {K : Params → PySem.W.Frag} (hn : l.most = some 63) (hdf : d.params.defaults = [])
    (hY : ∀ (w : World) (h : Heap), YP w h → (K w.params).In h)
    (F : ∀ (w : World) (mg : Str → Option Value) (fa : Addr) (h : Heap), (K w.params).In h → h.Ns mainGlobals mg → mg d.name = some (.ref fa) →
      ∃ fd : FuncData, (∀ (s : Shared) (u : Value), BindsTo s fd ⟨[u], []⟩ [("_law_script", u)]) ∧ ∀ base : Heap, (K w.params).In base → base.Ns mainGlobals mg → FnOk l.prog w (K w.params) mg base CX0 7 fa fd ["_law_script"] (spLaw (K w.params))) :
    PySem.W.WalkO q loose XP YP l.row.toRowW d [] (fun f vs => PySem.call f vs) :=
  L2.walk_of (n := 63) (k := 7) (x := "_law_script") (CX := fun _ => CX0) (sp := fun w => spLaw (K w.params)) hn (by decide) hdf ⟨rfl, by decide, by decide⟩ hY F (fun _ _ a ns hl _ hS => ⟨a, ns, rfl, hS, hl, fun _ => rfl⟩) fun _ _ _ _ _ z => z
end Held
open PySem PySem.W PyProof.Rows in
set_option maxRecDepth 100000 in
set_option maxHeartbeats 0 in
theorem PySem.Challenge.cw_heldsteps_k08_whole_ratio_texts_holds : PySem.Challenge.rw_heldsteps_k08_whole_ratio_texts.Holds := by
  w_on; o_law; k_head; (case hw => w_witness2)
  k_fill
  refine Held.walk (l := PySem.Challenge.rw_heldsteps_k08_whole_ratio_texts) rfl rfl (fun w h Y => PySem.W.kIn_of Y) ?F
  case F =>
    intro w mg fa h KX G hmg
    refine' Held.all_mk KX G hmg (by decide +kernel) ?z_len ?z_range ?z_abs ?z_sum ?z_sorted ?z_isinstance ?z_zip ?z_enumerate ?z_reversed ?z_int ?z_str ?z_list ?z_tuple ?z_bool ?z_all ?z_any ?z_ValueError ?z_super ?a_LONGEST ?a_DIGITS ?a__law_bag ?l__law_bag ?c__law_bag ?k__law_bag ?a__law_draw ?l__law_draw ?c__law_draw ?k__law_draw ?a_common_divisor ?l_common_divisor ?c_common_divisor ?k_common_divisor ?a_is_figures ?l_is_figures ?c_is_figures ?k_is_figures ?a__law_number ?l__law_number ?c__law_number ?k__law_number ?a__law_divisor ?l__law_divisor ?c__law_divisor ?k__law_divisor ?a__law_int ?l__law_int ?c__law_int ?k__law_int ?a__law_ratio ?l__law_ratio ?c__law_ratio ?k__law_ratio ?a__law_read ?l__law_read ?c__law_read ?k__law_read ?a__law_figures ?l__law_figures ?c__law_figures ?k__law_figures ?a__law_due ?l__law_due ?c__law_due ?k__law_due ?a__law_right ?l__law_right ?c__law_right ?k__law_right ?a__law_bent ?l__law_bent ?c__law_bent ?k__law_bent ?a__law_long ?l__law_long ?c__law_long ?k__law_long ?a_law ?l_law ?c_law ?k_law ?e_opq ?e_cg ?e_ct ?aC_BadNumber ?xL_BadNumber ?bm_BadNumber ?sa_BadNumber ?ga_BadNumber ?gg_BadNumber ?no_number_BadNumber ?iC_BadNumber ?tI_BadNumber ?kC_BadNumber ?ex_BadNumber ?ve_BadNumber ?ty_BadNumber ?hd_BadNumber ?sup_BadNumber ?mro_BadNumber ?su_BadNumber ?ca_BadNumber ?mo_BadNumber ?l_BadNumber ?c_BadNumber ?lc_BadNumber ?v2_BadNumber ?fl_BadNumber ?cc_BadNumber ?aC_BadWord ?xL_BadWord ?bm_BadWord ?sa_BadWord ?ga_BadWord ?gg_BadWord ?no_word_BadWord ?iC_BadWord ?tI_BadWord ?kC_BadWord ?ex_BadWord ?ve_BadWord ?ty_BadWord ?hd_BadWord ?sup_BadWord ?mro_BadWord ?su_BadWord ?ca_BadWord ?mo_BadWord ?l_BadWord ?c_BadWord ?lc_BadWord ?v2_BadWord ?fl_BadWord ?cc_BadWord ?aC_Ratio ?pg_Ratio ?hd_Ratio ?po_Ratio ?sa_Ratio ?no_top_Ratio ?no_bottom_Ratio ?ca_Ratio ?mo_Ratio ?mk_Ratio ?kC_Ratio ?a_Ratio___init__ ?i_Ratio___init__ ?l_Ratio___init__ ?c_Ratio___init__ ?k_Ratio___init__ ?dl_Ratio___init__ ?a_Ratio___str__ ?i_Ratio___str__ ?l_Ratio___str__ ?c_Ratio___str__ ?k_Ratio___str__ ?rd_Ratio_read ?ga_Ratio_read ?a_Ratio_read ?b_Ratio_read ?l_Ratio_read ?c_Ratio_read ?k_Ratio_read ?k1_Ratio ?k2_Ratio ?k3_Ratio ?k4_Ratio ?si_Ratio ?is_Ratio
    (case z_len => k_is)
    (case z_range => k_is)
    (case z_abs => k_is)
    (case z_sum => k_is)
    (case z_sorted => k_is)
    (case z_isinstance => k_is)
    (case z_zip => k_is)
    (case z_enumerate => k_is)
    (case z_reversed => k_is)
    (case z_int => k_is)
    (case z_str => k_is)
    (case z_list => k_is)
    (case z_tuple => k_is)
    (case z_bool => k_is)
    (case z_all => k_is)
    (case z_any => k_is)
    (case z_ValueError => k_is)
    (case z_super => k_is)
    (case a_LONGEST => k_is)
    (case a_DIGITS => k_is)
    (case a__law_bag => k_is)
    (case l__law_bag => k_is)
    (case c__law_bag => k_is)
    (case k__law_bag => k_is)
    (case a__law_draw => k_is)
    (case l__law_draw => k_is)
    (case c__law_draw => k_is)
    (case k__law_draw => k_is)
    (case a_common_divisor => k_is)
    (case l_common_divisor => k_is)
    (case c_common_divisor => k_is)
    (case k_common_divisor => k_is)
    (case a_is_figures => k_is)
    (case l_is_figures => k_is)
    (case c_is_figures => k_is)
    (case k_is_figures => k_is)
    (case a__law_number => k_is)
    (case l__law_number => k_is)
    (case c__law_number => k_is)
    (case k__law_number => k_is)
    (case a__law_divisor => k_is)
    (case l__law_divisor => k_is)
    (case c__law_divisor => k_is)
    (case k__law_divisor => k_is)
    (case a__law_int => k_is)
    (case l__law_int => k_is)
    (case c__law_int => k_is)
    (case k__law_int => k_is)
    (case a__law_ratio => k_is)
    (case l__law_ratio => k_is)
    (case c__law_ratio => k_is)
    (case k__law_ratio => k_is)
    (case a__law_read => k_is)
    (case l__law_read => k_is)
    (case c__law_read => k_is)
    (case k__law_read => k_is)
    (case a__law_figures => k_is)
    (case l__law_figures => k_is)
    (case c__law_figures => k_is)
    (case k__law_figures => k_is)
    (case a__law_due => k_is)
    (case l__law_due => k_is)
    (case c__law_due => k_is)
    (case k__law_due => k_is)
    (case a__law_right => k_is)
    (case l__law_right => k_is)
    (case c__law_right => k_is)
    (case k__law_right => k_is)
    (case a__law_bent => k_is)
    (case l__law_bent => k_is)
    (case c__law_bent => k_is)
    (case k__law_bent => k_is)
    (case a__law_long => k_is)
    (case l__law_long => k_is)
    (case c__law_long => k_is)
    (case k__law_long => k_is)
    (case a_law => k_is)
    (case l_law => k_is)
    (case c_law => k_is)
    (case k_law => k_is)
    (case e_opq => k_is)
    (case e_cg => k_is)
    (case e_ct => k_is)
    (case aC_BadNumber => k_is)
    (case xL_BadNumber => k_is)
    (case bm_BadNumber => rfl)
    (case sa_BadNumber => k_is)
    (case ga_BadNumber => k_is)
    (case gg_BadNumber => k_is)
    (case no_number_BadNumber => k_is)
    (case iC_BadNumber => k_is)
    (case tI_BadNumber => k_is)
    (case kC_BadNumber => k_is)
    (case ex_BadNumber => k_is)
    (case ve_BadNumber => k_is)
    (case ty_BadNumber => k_is)
    (case hd_BadNumber => k_is)
    (case sup_BadNumber => ks_is)
    (case mro_BadNumber => k_is)
    (case su_BadNumber => first | rfl | k_is)
    (case ca_BadNumber => k_is)
    (case mo_BadNumber => k_is)
    (case l_BadNumber => k_is)
    (case c_BadNumber => k_is)
    (case lc_BadNumber => k_is)
    (case v2_BadNumber => rfl)
    (case fl_BadNumber => first | rfl | decide +kernel)
    (case cc_BadNumber => k_is)
    (case aC_BadWord => k_is)
    (case xL_BadWord => k_is)
    (case bm_BadWord => rfl)
    (case sa_BadWord => k_is)
    (case ga_BadWord => k_is)
    (case gg_BadWord => k_is)
    (case no_word_BadWord => k_is)
    (case iC_BadWord => k_is)
    (case tI_BadWord => k_is)
    (case kC_BadWord => k_is)
    (case ex_BadWord => k_is)
    (case ve_BadWord => k_is)
    (case ty_BadWord => k_is)
    (case hd_BadWord => k_is)
    (case sup_BadWord => ks_is)
    (case mro_BadWord => k_is)
    (case su_BadWord => first | rfl | k_is)
    (case ca_BadWord => k_is)
    (case mo_BadWord => k_is)
    (case l_BadWord => k_is)
    (case c_BadWord => k_is)
    (case lc_BadWord => k_is)
    (case v2_BadWord => rfl)
    (case fl_BadWord => first | rfl | decide +kernel)
    (case cc_BadWord => k_is)
    (case aC_Ratio => k_is)
    (case pg_Ratio => k_is)
    (case hd_Ratio => k_is)
    (case po_Ratio => k_is)
    (case sa_Ratio => k_is)
    (case no_top_Ratio => k_is)
    (case no_bottom_Ratio => k_is)
    (case ca_Ratio => k_is)
    (case mo_Ratio => k_is)
    (case mk_Ratio => k_is)
    (case kC_Ratio => k_is)
    (case a_Ratio___init__ => k_is)
    (case i_Ratio___init__ => k_is)
    (case l_Ratio___init__ => k_is)
    (case c_Ratio___init__ => k_is)
    (case k_Ratio___init__ => k_is)
    (case dl_Ratio___init__ => k_is)
    (case a_Ratio___str__ => k_is)
    (case i_Ratio___str__ => k_is)
    (case l_Ratio___str__ => k_is)
    (case c_Ratio___str__ => k_is)
    (case k_Ratio___str__ => k_is)
    (case rd_Ratio_read => k_is)
    (case ga_Ratio_read => k_is)
    (case a_Ratio_read => k_is)
    (case b_Ratio_read => k_is)
    (case l_Ratio_read => k_is)
    (case c_Ratio_read => k_is)
    (case k_Ratio_read => k_is)
    (case k1_Ratio => kit_is)
    (case k2_Ratio => kit_is)
    (case k3_Ratio => kit_is)
    (case k4_Ratio => kit_is)
    (case si_Ratio => k_is)
    (case is_Ratio => k_is)
#print axioms PySem.Challenge.cw_heldsteps_k08_whole_ratio_texts_holds
