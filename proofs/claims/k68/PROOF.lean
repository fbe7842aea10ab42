import PyProof.Rows.All
import Wide.All
import OpenK.AllK
import Wide.FinOn
import PyProof.EqAt
import PyProof.EqKinds
import PyProof.TupleCall
import KE.KExcSuper
import KE.KExcIs
import HandS.ForMost
import HandS.ForExc
import HandS.ExcInit
import HandS.ExcField
import HandS.ExcIs
import HandS.TryMany
import HandS.Walk
import HandS.Wide
import HandS.EndBits
import HandS.Flow
import HandS.Codes
import HandS.IsInst
import HandS.More
import HandS.Conv
import HandS.DictTup
import KE.KDictWalk
import HandS.Style
import HandS.Text
import HandS.Steps
import HandS.CallLocal
import HandS.TupLe
import HandS.TupAny
import HandS.Zip
import HandS.FStr
import HandS.Star
import HandS.DictComp
import PyProof.EqLayable
import HandS.Iter
import HandS.Strs
import PyProof.Rows.StrMul
import HandS.CallSlots
import HandS.Defaults
import HandS.Deep
import KE.KOpsOwn
import KE.KFmtOwn
import HandS.TupLen
import HandS.WordsDict
import HandS.MakeKwOnly
import HandS.ClsMeth
import HandS.HotCalls
import HandS.SetFor
import PyProof.P3Eq
import PySem.Challenge.RW_heldsteps_k68_stretch_and_twin_build
set_option Elab.async false
set_option linter.all false
set_option maxRecDepth 100000
set_option maxHeartbeats 4000000
namespace PySem
namespace HErr
open PySem.W PySem.Calls PyProof.Rows PySem.HandSPX
abbrev FP := Str × Pos × Pos × Pos × Pos
def stF (q : FP) : Stmt := .Assign [.Attribute (.Name "self" q.2.1) q.1 q.2.2.1] (.Name q.1 q.2.2.2.1) q.2.2.2.2
def stS (msg : Expr) (p1 p2 p3 p4 p5 : Pos) : Stmt := .Expr (.Call (.Attribute (.Call (.Name "super" p1) [] [] p2) "__init__" p3) [msg] [] p4) p5
section
variable {prog : Program} {w : World} {A : Around} {E : Value → Shared → Prop} {s : Shared} {K : Frag} {C : Addr}
/-- what is known of the class for its stores -/
structure ClsK (K : Frag) (C : Addr) (fs : List Str) : Prop where
  cls : ∃ nm q N bs bm sn sub ab col dd k0 k1 k2 k3 k5, K.lookup C = some (excClassObj nm q C N bs bm true sn sub ab col dd k0 k1 k2 k3 k5 "ValueError.__new__") ∧ refsVE bm = true
  sa : findIn K (.ref C) "__setattr__" = some (some (.builtin "object.__setattr__"))
  noN : ∀ f ∈ fs, findIn K (.ref C) f = some none
theorem ClsK.data {fs : List Str} (T : ClsK K C fs) : ∃ cd, clsIn K C = some cd ∧ refsVE cd.mro = true ∧ cd.hasDict = true := by
  obtain ⟨nm, q, N, bs, bm, sn, sub, ab, col, dd, k0, k1, k2, k3, k5, hC, hbm⟩ := T.cls
  exact ⟨{ name := nm, bases := bs, mro := .ref C :: bm, ns := N, qualname := q, hasDict := true, slotNames := sn, subclasses := sub, abstract := ab, collection := col, hasDel := false }, by unfold clsIn; rw [hC] <;> rfl, hbm, rfl⟩
theorem ld {M : Model} {env : Env} {m : Str → Option Value} {x : Str} {pos : Pos} {v : Value} {Q : Value → Shared → Prop} (hn : s.heap.Ns env.locals m) (hv : m x = some v) (h : Q v s)
    (hk : env.scope.kind = .function) (hl : env.kindOf x = some .local) (hd : (x == ("__debug__" : Str)) = false) :
    wpAny M A (eval (.Name x pos) env) Q E s := wpAny_Name (wpAny_loadName_local hk hl hn hv h) hd
theorem swaps_attr (env : Env) (q : FP) : swapsWith (.Name q.1 q.2.2.2.1) (some (.Attribute (.Name "self" q.2.1) q.1 q.2.2.1)) q.2.2.2.2.line env = pure false := rfl
/-- the stores behind the first -/
theorem stores_old {names : List Str} (T : ClsK K C names) {env : Env} (hk : env.scope.kind = .function) (hself : env.kindOf "self" = some .local) {m : Str → Option Value} {x dx t0 : Addr} (hmx : m "self" = some (.ref x)) :
    ∀ (fs : List FP) (us : List Value) (vs : List L2.V) (hv : L2.Vals vs us) (hfn : ∀ q ∈ fs, q.1 ∈ names ∧ env.kindOf q.1 = some .local ∧ (q.1 == ("__debug__" : Str)) = false) (hm : Paired (fun (q : FP) u => m q.1 = some u) fs us) (fV : List (Str × L2.V)) (mA : Str → Option Value) (s : Shared) (Q : Flow → Shared → Prop),
      K.In s.heap → s.heap.Ns env.locals m → env.locals ≠ dx → K.lookup dx = none →
      s.heap.get? x = some { cls := .ref C, dict := some dx, data := .fields #[.ref t0, .none, .none, .none, .bool false, .none] } → s.heap.Ns1 dx mA → (∀ f, L2.RelO (fV.lookup f) (mA f)) → fV.length + fs.length ≤ 900 →
      (∀ h' tk mB, (∀ b o, b ≠ dx → s.heap.get? b = some o → h'.get? b = some o) → h'.Ns1 dx mB → (∀ f, L2.RelO ((((fs.map (·.1)).zip vs).reverse ++ fV).lookup f) (mB f)) → Q .next { s with heap := h', toks := tk }) →
      wpAny (model prog w) A (execs (fs.map stF) env) Q E s
  | [], us, vs, hv, hfn, hm, fV, mA, s, Q, X, hn, hL, hKd, hx, hns, hr, hl, hq => by
    refine wpAny_execs_nil ?_
    have := hq s.heap s.toks mA (fun _ _ _ e => e) hns (by simpa using hr)
    exact this
  | q :: fs, us, vs, hv, hfn, hm, fV, mA, s, Q, X, hn, hL, hKd, hx, hns, hr, hl, hq => by
    cases hm with
    | cons hu hm' =>
      rename_i u us'
      cases hv with
      | cons ru hv' =>
        rename_i v vs'
        obtain ⟨hmem, hloc, hdb⟩ := hfn q (List.mem_cons_self ..)
        obtain ⟨cd, hcd, hmro, hhd⟩ := T.data
        have hw := L2.within_of hr
        obtain ⟨hp, g, d, tk, os⟩ := s
        obtain ⟨oD, _, _, hoD, _, _⟩ := hns.count hw
        show wpAny _ _ (execs (stF q :: fs.map stF) env) _ _ _
        refine wpAny_execs_cons (plainObj_wpAny_Assign_Attribute ?_ (swaps_attr env q))
        refine ld hn hu (ld hn hmx ?_ hk hself (by decide)) hk hloc hdb
        refine set_plain X (ox := { cls := .ref C, dict := some dx, data := .fields #[.ref t0, .none, .none, .none, .bool false, .none] }) (od := some oD) ⟨hx, rfl, rfl, hoD⟩ T.sa ?_
        refine PySem.OEX.osa_old X hx hns hw (by rw [List.length_map]; omega) hcd hmro hhd (T.noN _ hmem) (fun h' tk' k hn' => ?_)
        have hxd : x ≠ dx := fun z => by
          obtain ⟨o, es, ep, e1, e2, _⟩ := hns
          rw [← z, hx] at e1
          cases e1
          cases e2
        refine stores_old T hk hself hmx fs us' vs' hv' (fun q' hq' => hfn q' (List.mem_cons_of_mem _ hq')) hm' ((q.1, v) :: fV) _ ⟨h', g, d, tk', os⟩ Q
          (fun a o e => k a o (fun z => by rw [z, hKd] at e; cases e) (X a o e)) ?_ hL hKd (k _ _ hxd hx) hn' (L2.relO_put ru hr) (by simp only [List.length_cons] at hl ⊢; omega) (fun h2 tk2 mB k2 hn2 r2 => ?_)
        · obtain ⟨o, es, ep, e1, e2⟩ := hn
          exact ⟨o, es, ep, k _ _ hL e1, e2⟩
        · refine hq h2 tk2 mB (fun b o hb e => k2 b o hb (k b o hb e)) hn2 fun f => ?_
          have := r2 f
          simpa using this
/-- all stores: from an exception without a dict -/
theorem stores_new {names : List Str} (T : ClsK K C names) {env : Env} (hk : env.scope.kind = .function) (hself : env.kindOf "self" = some .local) {m : Str → Option Value} {x t0 : Addr} (hmx : m "self" = some (.ref x))
    (q : FP) (fs : List FP) (us : List Value) (vs : List L2.V) (hv : L2.Vals vs us) (hfn : ∀ q' ∈ q :: fs, q'.1 ∈ names ∧ env.kindOf q'.1 = some .local ∧ (q'.1 == ("__debug__" : Str)) = false) (hm : Paired (fun (q : FP) u => m q.1 = some u) (q :: fs) us) (s : Shared) (Q : Flow → Shared → Prop)
    (X : K.In s.heap) (hn : s.heap.Ns env.locals m) (hLx : env.locals ≠ x) (hKx : K.lookup x = none)
    (hx : s.heap.get? x = some { cls := .ref C, data := .fields #[.ref t0, .none, .none, .none, .bool false, .none] }) (hl : fs.length ≤ 800)
    (hq : ∀ h' tk dx mB, (∀ b o, b ≠ x → s.heap.get? b = some o → h'.get? b = some o) → s.heap.objs.size ≤ dx → dx ≠ x → h'.get? x = some { cls := .ref C, dict := some dx, data := .fields #[.ref t0, .none, .none, .none, .bool false, .none] } →
      h'.Ns1 dx mB → (∀ f, L2.RelO (((((q :: fs).map (·.1)).zip vs).reverse).lookup f) (mB f)) → Q .next { s with heap := h', toks := tk }) :
    wpAny (model prog w) A (execs ((q :: fs).map stF) env) Q E s := by
  cases hm with
  | cons hu hm' =>
    rename_i u us'
    cases hv with
    | cons ru hv' =>
      rename_i v vs'
      obtain ⟨hmem, hloc, hdb⟩ := hfn q (List.mem_cons_self ..)
      obtain ⟨cd, hcd, hmro, hhd⟩ := T.data
      obtain ⟨hp, g, d, tk, os⟩ := s
      show wpAny _ _ (execs (stF q :: fs.map stF) env) _ _ _
      refine wpAny_execs_cons (plainObj_wpAny_Assign_Attribute ?_ (swaps_attr env q))
      refine ld hn hu (ld hn hmx ?_ hk hself (by decide)) hk hloc hdb
      refine set_plain X (ox := { cls := .ref C, dict := none, data := .fields #[.ref t0, .none, .none, .none, .bool false, .none] }) (od := none) ⟨hx, rfl, rfl, trivial⟩ T.sa ?_
      refine exc_osa X hx hcd hmro hhd (T.noN _ hmem) (fun h' tk' dx k dn dne hx' hn' => ?_)
      have hbig : ∀ {b : Addr} {o : Obj}, hp.get? b = some o → b ≠ dx := fun {b o} e => Nat.ne_of_lt (Nat.lt_of_lt_of_le (Heap.lt_size e) dn)
      have hKd : K.lookup dx = none := by
        cases e : K.lookup dx with
        | none => rfl
        | some o => exact absurd rfl (hbig (X _ _ e))
      have hLd : env.locals ≠ dx := by
        obtain ⟨o, es, ep, e1, e2⟩ := hn
        exact hbig e1
      refine stores_old T hk hself hmx fs us' vs' hv' (fun q' hq' => hfn q' (List.mem_cons_of_mem _ hq')) hm' [(q.1, v)] _ ⟨h', g, d, tk', os⟩ Q
        (fun a o e => k a o (fun z => by rw [z, hKx] at e; cases e) (X a o e)) ?_ hLd hKd hx' hn' (L2.relO_put (fs := []) ru fun _ => True.intro) (by simp only [List.length_cons, List.length_nil] at hl ⊢; omega) (fun h2 tk2 mB k2 hn2 r2 => ?_)
      · obtain ⟨o, es, ep, e1, e2⟩ := hn
        exact ⟨o, es, ep, k _ _ hLx e1, e2⟩
      · refine hq h2 tk2 dx mB (fun b o hb e => k2 b o (hbig e) (k b o hb e)) dn dne (k2 _ _ (Ne.symm dne) hx') hn2 fun f => ?_
        have := r2 f
        simpa using this
/-- what the written part says of the class at C and of its __init__, at fI: its name is cn, its fields fs -/
structure ErrTxt (P : Program) (K : Frag) (mg : Str → Option Value) (tm : Bool) (cn : Str) (C fI : Addr) (fs : List Str) : Prop extends ClsK K C fs where
  gC : mg cn = some (.ref C)
  ga : findIn K (.ref C) "__getattribute__" = some (some (.builtin "BaseException.__getattribute__"))
  gg : findIn K (.ref C) "__getattr__" = some none
  iC : findIn K (.ref C) "__init__" = some (some (.ref fI))
  tC : typeIn K (.ref fI) = some (.type "function")
  kC : keepIn K (.ref C) = true
  exC : subIn K (.ref C) (.type "BaseException") = some true
  veC : subIn K (.ref C) (.type "ValueError") = some true
  tyC : typeIn K (.ref C) = some (.type "type")
  hdC : hasDictIn K C = true
  sup : ks_superIn K C C "__init__" = some (some (.builtin "ValueError.__init__"))
  mro : mroIn K C (.ref C) = some true
  sub : subIn K (.ref C) (.ref C) = some true
  ca : findIn K (.ref C) "__class__" = some (some (.builtin "object.__class__"))
  cg : specialIn K (.builtin "object.__class__") "__get__" = some (some (.builtin "getset_descriptor.__get__"))
  ct : takesIn K (.builtin "object.__class__") = some true
  mo : mroIn K C (.type "object") = some true
  opq : nsIn K cStatics "thirdparty.any" = some none
  msup : mg "super" = none
  top : (P.main.scope.names.lookup ("super" : Str)).isSome = false
  fn : ∃ (oc : Value) (od : Option Addr) (qual : Str) (par : Arguments) (sc : Scope) (msg : Expr) (p1 p2 p3 p4 p5 : Pos) (fp : List FP) (dV kV doc pm : Value) (an : Option Addr) (cda cc : Addr) (ct : Value) (osl : Array (Option Value)) (ar : Arg)
      (ccl cl : Value) (cdd cld : Option Addr) (ccs csl : Array (Option Value)) (vs : Array Value) (file : Str) (tf : Tok),
    K.lookup fI = some ⟨oc, od, .func (ksFn "__init__" qual par (stS msg p1 p2 p3 p4 p5 :: fp.map stF) sc dV kV doc pm an (.ref cda) ct cc), osl⟩ ∧ codeIn K (.ref cda) qual = true ∧
    (par.posonlyargs ++ par.args).head? = some ar ∧ ar.arg = "self" ∧ K.lookup cda = some ⟨ccl, cdd, .fields vs, ccs⟩ ∧ vs[2]? = some (.str file tf) ∧ ((P.main.file : Str) == file) = true ∧
    K.lookup cc = some ⟨cl, cld, .cell (some (.ref C)), csl⟩ ∧ fp.map (·.1) = fs ∧ (p3.endLine == p4.line) = true ∧
    (sc.names.lookup ("super" : Str) = some .globalImplicit ∧ sc.names.lookup ("__class__" : Str) = some .free ∧ sc.names.lookup ("self" : Str) = some .local ∧ (∀ f ∈ fs, sc.names.lookup f = some .local) ∧ (∀ f ∈ fs, (f == ("__debug__" : Str)) = false) ∧ (∀ y ∈ sc.names, y.2 ≠ .cell)) ∧
    (sc.kind = .function ∧ sc.isGenerator = false ∧ sc.isCoroutine = false) ∧
    (∀ (s : Shared) (x : Value) (us : List Value), us.length = fs.length → BindsTo s (ksFn "__init__" qual par (stS msg p1 p2 p3 p4 p5 :: fp.map stF) sc dV kV doc pm an (.ref cda) ct cc) ⟨x :: us, []⟩ (("self", x) :: fs.zip us)) ∧
    (∀ (x : Value) (us : List Value), us.length = fs.length → ((("self" : Str), x) :: fs.zip us).reverse.lookup ("self" : Str) = some x ∧ Paired (fun f u => ((("self" : Str), x) :: fs.zip us).reverse.lookup f = some u) fs us) ∧
    ((tm = false ∧ ∃ (z : Str) (i : Nat) (p : Pos), msg = .Constant (.str z) i p) ∨ tm = true ∧ ∃ (z f : Str) (i : Nat) (p p' p'' : Pos), msg = .BinOp (.Constant (.str z) i p) .Add (.Name f p') p'' ∧ z.length ≤ 100 ∧ fs.head? = some f)
/-- what __init__ leaves of a fresh exception at x -/
structure InitEnd (h h' : Heap) (x C dx t1 : Addr) (fs : List Str) (vs : List L2.V) : Prop where
  keep : ∀ b o, b ≠ x → h.get? b = some o → h'.get? b = some o
  obj : h'.get? x = some { cls := .ref C, dict := some dx, data := .fields #[.ref t1, .none, .none, .none, .bool false, .none] }
  dbig : h.objs.size ≤ dx
  dne : dx ≠ x
  ns : ∃ mB, h'.Ns1 dx mB ∧ ∀ f, L2.RelO ((fs.zip vs).reverse.lookup f) (mB f)
/-- the built-in __init__, bound, called -/
theorem call_bw {h : Heap} {g : Array GenState} {d : Drawn} {t : Nat} {os : OsState} {u e t0 : Addr} {rest : List Value} {names : List Str} {Q : Value → Shared → Prop} (T : ClsK K C names) (X : K.In h)
    (he : h.get? e = some (excO C t0)) (hu : h.get? u = some (kxs_mw "ValueError.__init__" e)) (hrest : rest.length ≤ sizeLine)
    (hq : ∀ h' t1, (∀ b o, b ≠ e → h.get? b = some o → h'.get? b = some o) → h'.get? e = some (excO C t1) → Q .none ⟨h', g, d, t, os⟩) :
    wpAny (model prog w) A (call (.ref u) rest) Q E ⟨h, g, d, t, os⟩ := by
  obtain ⟨nm, q, N, bs, bm, sn, sub, ab, col, dd, k0, k1, k2, k3, k5, hC, hbm⟩ := T.cls
  refine wpAny_call (codeAny_of_tree ?_)
  show wpAny _ A.in1 (callAny (.ref u) ⟨rest, []⟩) _ _ _
  simp only [callAny]
  refine wpAny_bind (wpAny_load hu ?_)
  simp only [kxs_mw, show (Value.type "method-wrapper" == Value.type "method" || Value.type "method-wrapper" == Value.type "builtin_function_or_method" || Value.type "method-wrapper" == Value.type "method-wrapper") = true by decide, if_true]
  refine W.KFB.if_so (by decide) ?_
  refine wpAny_bind (PySem.W.check_bound_init F.excBase_ValueError.toExcCallFacts (X _ _ hC) he rfl ?_)
  refine wpAny_bind (wpAny_pure (wpAny_pure ?_))
  refine ⟨plainId_quiet F.excBase_ValueError.init.plain _, codeAny_builtin F.excBase_ValueError.initEntry ?_⟩
  exact exc_init_tree (cls := .ref C) (t0 := t0) (dv := none) (c2 := .none) (c3 := .none) (b4 := .bool false) he hrest fun h' k e' _ => hq h' _ k e'
/-- the text that super().__init__ gets -/
def MsgOk (msg : Expr) (env : Env) (m : Str → Option Value) : Prop := ∀ (prog : Program) (w : World) (A : Around) (E : Value → Shared → Prop) (s : Shared) (Q : Value → Shared → Prop), s.heap.Ns env.locals m → (∀ v tk, Q v { s with toks := tk }) → wpAny (model prog w) A (eval msg env) Q E s
/-- its __init__, called -/
theorem err_init {mg : Str → Option Value} {cn : Str} {fI : Addr} {fs : List Str} {tm : Bool} (T : ErrTxt prog K mg tm cn C fI fs) {x t0 : Addr} {us : List Value} {vs : List L2.V} {mb : Str → Option Value} {R : Result → Shared → Prop} (hv : L2.Vals vs us) (hl : us.length = fs.length) (hl8 : fs.length ≤ 8) (hne : fs ≠ [])
    (hmsg : tm = true → ∀ u, us.head? = some u → ∃ (z : Str) (t : Tok), u = .str z t ∧ z.length ≤ 1000)
    (X : K.In s.heap) (hlim : s.heap.NoLimit) (hg : s.heap.Ns mainGlobals mg) (hb : s.heap.Ns builtinsNs mb) (hbs : mb "super" = bootBuiltins "super") (hx : s.heap.get? x = some (excO C t0)) (hnx : K.lookup x = none) (hroom : A.depth < recursionLimit)
    (hq : ∀ h' tk dx t1, InitEnd s.heap h' x C dx t1 fs vs → R (.ok (.ret .none)) { s with heap := h', toks := tk }) :
    codeAny (model prog w) A (.call (.ref fI) ⟨.ref x :: us, []⟩) R s := by
  obtain ⟨oc, od, qual, par, sc, msg, p1, p2, p3, p4, p5, fp, dV, kV, doc, pm, an, cda, cc, ct, osl, ar, ccl, cl, cdd, cld, ccs, csl, avs, file, tf, ho, hcd, har, hself, hcda, hfile, hfe, hcell, hfp, hpos, ⟨nS, nC, nSelf, nF, nD, nCell⟩, ⟨kF, kG, kCo⟩, hbind, hlook, hm⟩ := T.fn
  obtain ⟨lself, lf⟩ := hlook (.ref x) us hl
  obtain ⟨cd, hcd2, hmro, hhd⟩ := T.toClsK.data
  obtain ⟨oD, hD1, hD2⟩ : ∃ oD, s.heap.get? C = some oD ∧ oD.data = .cls cd := by
    unfold clsIn at hcd2
    split at hcd2
    · rename_i c d cd' sl ho'
      cases hcd2
      exact ⟨_, X _ _ ho', rfl⟩
    · cases hcd2
  have hxC : x ≠ C := fun z => by
    rw [z, hD1] at hx
    cases hx
    cases hD2
  refine ks_codeAny_call_defAt (fd := ksFn "__init__" qual par (stS msg p1 p2 p3 p4 p5 :: fp.map stF) sc dV kV doc pm an (.ref cda) ct cc) (body := stS msg p1 p2 p3 p4 p5 :: fp.map stF) (binds := ("self", .ref x) :: fs.zip us) hroom (X _ _ ho) rfl hlim (codeRec_of X hcd) rfl (hbind s (.ref x) us hl) nCell ?_ (fun h₁ hns hk₁ => ?_) kCo kG kF
  · intro y hy
    rcases List.mem_cons.mp hy with rfl | hy
    · exact nSelf
    · exact nF _ (List.of_mem_zip hy).1
  have X₁ : K.In h₁ := X.keeps hk₁
  have hx₁ := hk₁ _ _ hx
  have hLx : s.heap.objs.size ≠ x := Nat.ne_of_gt (Heap.lt_size hx)
  have hMsg : MsgOk msg (ksEnv qual sc s.heap.objs.size fI (.ref cda) cc) (fun y => (((("self" : Str), Value.ref x) :: fs.zip us).reverse.lookup y)) := by
    intro prog w A E s1 Q hn1 hq1
    rcases hm with ⟨_, z, i, p, rfl⟩ | ⟨htm, z, f, i, p, p', p'', rfl, hz, hf⟩
    · exact wpAny_Constant_str (hq1 _ _)
    · cases lf with
      | nil => cases hf
      | cons h1 _ =>
        cases hf
        obtain ⟨z2, t2, rfl, hz2⟩ := hmsg htm _ rfl
        refine wpAny_BinOp (wpAny_Constant_str (ld (env := ksEnv qual sc s.heap.objs.size fI (.ref cda) cc) hn1 h1 ?_ kF (nF _ (List.mem_cons_self ..)) (nD _ (List.mem_cons_self ..))))
        exact add_str (fun t' tk => hq1 _ _) (by rw [sizeLine_eq]; omega)
  obtain ⟨kind, names, isG, isC, more⟩ := sc
  dsimp only at kF kG kCo nS nC nSelf nF nCell
  subst kF kG kCo
  obtain ⟨pl, he⟩ : ∃ pl, eval (.Call (.Attribute (.Call (.Name "super" p1) [] [] p2) "__init__" p3) [msg] [] p4) (ksEnv qual ⟨.function, names, false, false, more⟩ s.heap.objs.size fI (.ref cda) cc) = (do
      let ov ← attributeBase (.Call (.Name "super" p1) [] [] p2) "__init__" (ksEnv qual ⟨.function, names, false, false, more⟩ s.heap.objs.size fI (.ref cda) cc) (eval (.Call (.Name "super" p1) [] [] p2) (ksEnv qual ⟨.function, names, false, false, more⟩ s.heap.objs.size fI (.ref cda) cc))
      standAt p3.atName
      let (f, first) ← holding [ov] (getMethod ov "__init__" pl)
      callWith p4 f first (backTo p4 (starEach [msg] (ksEnv qual ⟨.function, names, false, false, more⟩ s.heap.objs.size fI (.ref cda) cc))) []) := by
    have hmp : ∀ o env, methodCallPos true o env p3 p4 = pure p4 := fun o env => by
      unfold methodCallPos
      rw [hpos] <;> rfl
    have key : ∀ ms : Expr, methodCallForm ([ms].length + ([] : List Keyword).length) (backTo p4 (starEach [ms] (ksEnv qual ⟨.function, names, false, false, more⟩ s.heap.objs.size fI (.ref cda) cc))) (backToKw p4 (keywordEach [] (ksEnv qual ⟨.function, names, false, false, more⟩ s.heap.objs.size fI (.ref cda) cc))) = true →
        eval (.Call (.Attribute (.Call (.Name "super" p1) [] [] p2) "__init__" p3) [ms] [] p4) (ksEnv qual ⟨.function, names, false, false, more⟩ s.heap.objs.size fI (.ref cda) cc) = (do
      let ov ← attributeBase (.Call (.Name "super" p1) [] [] p2) "__init__" (ksEnv qual ⟨.function, names, false, false, more⟩ s.heap.objs.size fI (.ref cda) cc) (eval (.Call (.Name "super" p1) [] [] p2) (ksEnv qual ⟨.function, names, false, false, more⟩ s.heap.objs.size fI (.ref cda) cc))
      standAt p3.atName
      let (f, first) ← holding [ov] (getMethod ov "__init__" (do return (← importBound (.Call (.Name "super" p1) [] [] p2) (ksEnv qual ⟨.function, names, false, false, more⟩ s.heap.objs.size fI (.ref cda) cc)).getD true))
      callWith p4 f first (backTo p4 (starEach [ms] (ksEnv qual ⟨.function, names, false, false, more⟩ s.heap.objs.size fI (.ref cda) cc))) []) := by
      intro ms hf
      show (do
        let ov ← attributeBase (.Call (.Name "super" p1) [] [] p2) "__init__" (ksEnv qual ⟨.function, names, false, false, more⟩ s.heap.objs.size fI (.ref cda) cc) (eval (.Call (.Name "super" p1) [] [] p2) (ksEnv qual ⟨.function, names, false, false, more⟩ s.heap.objs.size fI (.ref cda) cc))
        standAt p3.atName
        methodCall (.Call (.Name "super" p1) [] [] p2) "__init__" p3 p4 (ksEnv qual ⟨.function, names, false, false, more⟩ s.heap.objs.size fI (.ref cda) cc) ov ([ms].length + ([] : List Keyword).length) (backTo p4 (starEach [ms] (ksEnv qual ⟨.function, names, false, false, more⟩ s.heap.objs.size fI (.ref cda) cc))) (backToKw p4 (keywordEach [] (ksEnv qual ⟨.function, names, false, false, more⟩ s.heap.objs.size fI (.ref cda) cc)))) = _
      unfold methodCall
      simp only [hf, hmp, pure_bind]
      rfl
    rcases hm with ⟨_, z, i, p, rfl⟩ | ⟨htm, z, f, i, p, p', p'', rfl, hz, hf⟩
    · exact ⟨_, key _ rfl⟩
    · exact ⟨_, key _ rfl⟩
  have hst : starEach [msg] (ksEnv qual ⟨.function, names, false, false, more⟩ s.heap.objs.size fI (.ref cda) cc) = [(false, eval msg (ksEnv qual ⟨.function, names, false, false, more⟩ s.heap.objs.size fI (.ref cda) cc))] := by
    rcases hm with ⟨_, z, i, p, rfl⟩ | ⟨htm, z, f, i, p, p', p'', rfl, hz, hf⟩
    · rfl
    · rfl
  -- super().__init__(..)
  refine ks_wpAt_execs_cons (ks_wpAt_Expr_any (ks_wpAt_MethodCall (pl := pl) ?_ he))
  refine ks_wpAt_super_base (env := ksEnv qual ⟨.function, names, false, false, more⟩ s.heap.objs.size fI (.ref cda) cc) nS nC (by decide) rfl (hk₁ _ _ (X _ _ ho)) rfl har rfl (X₁ _ _ hcda) rfl hfile hfe T.top ?_
  refine ks_loadName_global rfl nS (loadGlobal_builtin (env := ksEnv qual ⟨.function, names, false, false, more⟩ s.heap.objs.size fI (.ref cda) cc) (hg.keeps hk₁) T.msup (hb.keeps hk₁) (hbs.trans (by first | boot_by_name | rfl | kernel_rfl)) ⟨rfl, ?_⟩)
  refine wpAny_loadName_free rfl nC rfl ⟨_, X₁ _ _ hcell, rfl⟩ ?_
  rw [hself]
  refine wpAny_loadName_local rfl nSelf hns lself ?_
  refine ks_wpAny_isType_cls (hk₁ _ _ hD1) hD2 ⟨rfl, ?_⟩
  refine ks_wpAny_call_super (hk₁ _ _ hD1) hD2 hx₁ rfl (fun c e => by cases e) (looks_mroIn X₁ T.mro) (fun h₂ eso k₂ => ?_)
  have X₂ : K.In h₂ := X₁.keeps k₂
  have hx₂ := k₂ _ _ hx₁
  have hnsU : ∀ {h : Heap}, (∀ b o, h₁.get? b = some o → h.get? b = some o) → h.Ns s.heap.objs.size (fun y => ((("self" : Str), Value.ref x) :: fs.zip us).reverse.lookup y) := fun {h} k => hns.keeps k
  have hsup := T.sup
  unfold ks_superIn at hsup
  rw [hcd2] at hsup
  refine kxs_getMethod kxs_ValueError (K := K) eso (looks_opaque X₂ T.opq) (l₀ := cd.mro) ?_ rfl X₂ hsup ?_ hxC (by decide) ?_
  · exact fun A Q E s k q => wpAny_bind ((looks_clsIn X₂ hcd2) A _ E s k (wpAny_pure q))
  · exact (InstAt.type (od := none) ⟨hx₂, rfl, rfl, trivial⟩).andThen (looks_subIn X₂ T.veC)
  · have k₃ : ∀ b o, h₂.get? b = some o → (h₂.push (kxs_mw "ValueError.__init__" x)).get? b = some o := fun b o e => Heap.get?_push_of_some _ e
    show wpAny _ _ (callWith p4 (.ref h₂.objs.size) [] (backTo p4 (starEach [msg] (ksEnv qual ⟨.function, names, false, false, more⟩ s.heap.objs.size fI (.ref cda) cc))) []) _ _ _
    rw [hst]
    refine kxs_callWith (i := "ValueError.__init__") (x := x) rfl (evalArgs_plain ?_)
    refine spliced_cons ?_
    refine hMsg prog w _ _ _ _ (hnsU fun b o e => k₃ b o (k₂ b o e)) (fun v tk => spliced_nil ⟨?_, ?_⟩)
    · exact Heap.get?_push_at rfl rfl
    · refine call_bw T.toClsK (X₂.keeps k₃) (k₃ _ _ hx₂) (Heap.get?_push_at rfl rfl) (by rw [sizeLine_eq]; exact (by decide : 1 ≤ 16777216)) (fun h₄ t1 k₄ hx₄ => ?_)
      have hsz : ∀ {b : Addr} {o : Obj}, s.heap.get? b = some o → b ≠ x → h₄.get? b = some o := fun {b o} e hb => k₄ b o hb (k₃ b o (k₂ b o (hk₁ b o e)))
      have hL4 : h₄.Ns s.heap.objs.size (fun y => ((("self" : Str), Value.ref x) :: fs.zip us).reverse.lookup y) := by
        obtain ⟨o, es, ep, e1, e2⟩ := hns
        exact ⟨o, es, ep, k₄ _ _ hLx (k₃ _ _ (k₂ _ _ e1)), e2⟩
      cases fp with
      | nil => exact absurd hfp.symm (by simpa using hne)
      | cons q fp =>
        have hP : Paired (fun (q : FP) u => ((("self" : Str), Value.ref x) :: fs.zip us).reverse.lookup q.1 = some u) (q :: fp) us := by
          rw [← hfp] at lf
          have key : ∀ (m : Str → Option Value) (l : List FP) (us : List Value), Paired (fun f u => m f = some u) (l.map (·.1)) us → Paired (fun (q : FP) u => m q.1 = some u) l us := by
            intro m l
            induction l with
            | nil => intro us h; cases h; exact .nil
            | cons a l ih => intro us h; cases h with | cons h1 h2 => exact .cons h1 (ih _ h2)
          have := key (fun y => ((("self" : Str), Value.ref x) :: fs.zip us).reverse.lookup y) (q :: fp) us (by simpa [hfp] using lf)
          exact this
        show wpAt _ _ _ (execs ((q :: fp).map stF) _) _ _ _
        refine wpAt_of_wpAny (stores_new (m := fun y => (((("self" : Str), Value.ref x) :: fs.zip us).reverse.lookup y)) T.toClsK (env := ksEnv qual ⟨.function, names, false, false, more⟩ s.heap.objs.size fI (.ref cda) cc) rfl nSelf lself q fp us vs hv (fun q' hq' => ?_) hP ⟨h₄, s.gens, s.drawn, tk, s.os⟩ _ ((fun a o e => hsz (X a o e) (fun z => by rw [z, hnx] at e; cases e))) hL4 hLx hnx hx₄ ?_ (fun h' tk' dx mB k5 dn dne hx5 hn5 r5 => ?_))
        · have hin : q'.1 ∈ fs := by rw [← hfp]; exact List.mem_map_of_mem hq'
          exact ⟨hin, nF _ hin, nD _ hin⟩
        · have : (q :: fp).length = fs.length := by rw [← hfp, List.length_map]
          simp only [List.length_cons] at this
          omega
        · refine hq h' tk' dx t1 ⟨fun b o hb e => k5 b o hb (hsz e hb), hx5, ?_, dne, mB, hn5, ?_⟩
          · refine Nat.le_trans ?_ dn
            have z1 : s.heap.objs.size < h₄.objs.size := by
              obtain ⟨o, es, ep, e1, e2⟩ := hL4
              exact Heap.lt_size e1
            exact Nat.le_of_lt z1
          · intro f
            have := r5 f
            rw [hfp] at this
            exact this
/-- a made error -/
structure OwnMade (h h' : Heap) (e C d : Addr) (fs : List Str) (vs : List L2.V) : Prop where
  keep : ∀ b o, h.get? b = some o → h'.get? b = some o
  new : h.objs.size ≤ e
  obj : ∃ oe as, h'.get? e = some oe ∧ oe.cls = .ref C ∧ oe.dict = some d ∧ oe.data = .fields as ∧ as[1]? = some .none
  dbig : h.objs.size ≤ d
  dne : d ≠ e
  ns : ∃ mB, h'.Ns1 d mB ∧ ∀ f, L2.RelO ((fs.zip vs).reverse.lookup f) (mB f)
theorem err_made {mg : Str → Option Value} {cn : Str} {fI : Addr} {fs : List Str} {tm : Bool} (T : ErrTxt prog K mg tm cn C fI fs) {us : List Value} {vs : List L2.V} {mb : Str → Option Value} {R : Result → Shared → Prop} (hv : L2.Vals vs us) (hl : us.length = fs.length) (hl8 : fs.length ≤ 8) (hne : fs ≠ [])
    (hmsg : tm = true → ∀ u, us.head? = some u → ∃ (z : Str) (t : Tok), u = .str z t ∧ z.length ≤ 1000)
    (X : K.In s.heap) (hlim : s.heap.NoLimit) (hg : s.heap.Ns mainGlobals mg) (hb : s.heap.Ns builtinsNs mb) (hbs : mb "super" = bootBuiltins "super") (hroom : A.depth + 1 < recursionLimit)
    (hq : ∀ h' tk e d, OwnMade s.heap h' e C d fs vs → R (.ok (.ret (.ref e))) { s with heap := h', toks := tk }) :
    codeAny (model prog w) A (.call (.ref C) ⟨us, []⟩) R s := by
  obtain ⟨nm, q, N, bs, bm, sn, sub, ab, col, dd, k0, k1, k2, k3, k5, hC, hbm⟩ := T.cls
  obtain ⟨hp, g, dr, tk, os⟩ := s
  have k : ∀ b o, hp.get? b = some o → ((hp.push (kdv_tup us)).push (excO C hp.objs.size)).get? b = some o := fun b o e => Heap.get?_push_of_some _ (Heap.get?_push_of_some _ e)
  have hget : ((hp.push (kdv_tup us)).push (excO C hp.objs.size)).get? (hp.objs.size + 1) = some (excO C hp.objs.size) := by heap_get
  have hnx : K.lookup (hp.objs.size + 1) = none := by
    cases e : K.lookup (hp.objs.size + 1) with
    | none => rfl
    | some o =>
      have z : hp.get? (hp.objs.size + 1) = some o := X _ _ e
      exact absurd (Nat.lt_of_succ_lt (Heap.lt_size z)) (Nat.lt_irrefl _)
  refine call_own F.excBase_ValueError (fun X => refsVE_contains X bm hbm) (X _ _ hC) (looks_findIn X T.iC) (fun self => bind_fn X self T.tC) (by rw [sizeLine_eq]; omega) ?_
  refine err_init (s := ⟨(hp.push (kdv_tup us)).push (excO C hp.objs.size), g, dr, tk, os⟩) T hv hl hl8 hne hmsg (X.keeps k) (hlim.keeps k) (hg.keeps k) (hb.keeps k) hbs hget hnx ?_ fun h' tk' dx t1 ⟨k', hx, dn, dne, hns⟩ => ?_
  · show A.depth + 1 < recursionLimit
    exact hroom
  · have old : ∀ b o, hp.get? b = some o → h'.get? b = some o := fun b o e => k' b o (Nat.ne_of_lt (Nat.lt_succ_of_lt (Heap.lt_size e))) (k b o e)
    have z : hp.objs.size + 1 + 1 ≤ dx := by
      first
        | (simpa only [Heap.size_push] using dn)
        | exact dn
        | (have q := dn; rw [Heap.size_push, Heap.size_push] at q; exact q)
    exact ⟨rfl, hq h' tk' (hp.objs.size + 1) dx ⟨old, Nat.le_succ _, ⟨_, _, hx, rfl, rfl, rfl, rfl⟩, Nat.le_trans (Nat.le_trans (Nat.le_succ _) (Nat.le_succ _)) z, dne, hns⟩⟩
end
end HErr
end PySem
namespace L2
open PySem PySem.Spec PyProof.Rows PySem.HErr
section
variable {X : Cx} {C fI : Addr} {cn : Str} {fs : List Str} {tm : Bool}
/-- C(e, ..), an error of the package -/
def tMkE (tm : Bool) (C : Addr) (fs : List Str) (ta : TA) : St → Hp → XK → Prop := fun σ H Q => ta σ H fun vs H1 => vs.length = fs.length ∧ (tm = true → ∃ (z : Str) (r : List V), vs = .str z :: r ∧ z.length ≤ 1000) ∧
  ∀ d, H1 d = none → Q (.ref C) (some d) (upd H1 d (.xd (fs.zip vs).reverse))
theorem pmk_err {a : Expr} {as : List Expr} {ta : TA} {p pos : Pos} {k : Nat} (T : ErrTxt X.prog X.K X.mg tm cn C fI fs) (hr : Room k X.A) (ha : PA X (a :: as) ta) (hl8 : fs.length ≤ 8) (hne : fs ≠ []) (hg : Gl X cn := by rfl) (hdb : (cn == ("__debug__" : Str)) = false := by decide)
    (he : starEach (a :: as) X.env = (false, eval a X.env) :: starEach as X.env := by rfl) (hpl : (backTo pos (starEach as X.env)).any (·.1) = false := by rfl) :
    PMk X (.Call (.Name cn p) (a :: as) [] pos) (tMkE tm C fs ta) := by
  intro pins s σ H Q I h
  refine wpAny_Call_Name_kw (ld_glob I hg T.gC ?_ hdb)
  refine PySem.W.callWith_K (h₀ := X.base) I.ok.mod.kin T.kC (thn (ha.run pos pins s σ H _ I h) fun us s1 hh => ?_) he hpl
  obtain ⟨vs, H1, I1, r1, hl, hz, q1⟩ := hh
  refine ⟨I1.kIn, ?_⟩
  show wpAny _ _ (call (.ref C) us) _ _ _
  have hlim := I1.nolimit
  obtain ⟨mb, hb1, hb2⟩ := I1.mod.blt
  have hgl := I1.mod.glob.keeps I1.bk
  have hbl := hb1.keeps I1.bk
  obtain ⟨hp, g, dr, tk, os⟩ := s1
  refine wpAny_call (err_made (mb := mb) T r1 (r1.length.symm.trans hl) hl8 hne ?_ I1.kIn hlim hgl hbl (hb2 "super" (by decide)) (by have := hr.dp; omega) fun h' tk' e d M => ?_)
  · intro ht u hu
    obtain ⟨z, r, rfl, hz5⟩ := hz ht
    cases r1 with
    | cons r0 _ =>
      cases hu
      obtain ⟨t, rfl⟩ := r0
      exact ⟨z, t, rfl, hz5⟩
  show MkP X pins σ Q (.ref e) ⟨h', g, dr, tk', os⟩
  obtain ⟨oe, fv, hoe, hc, hd, hdat, h1⟩ := M.obj
  obtain ⟨mB, hns, hrel⟩ := M.ns
  obtain ⟨G', g1, g2⟩ := restrict h' fun b => decide (b ≠ e)
  have gk : ∀ b, b ≠ e → G'.get? b = h'.get? b := fun b hb => g1 b (decide_eq_true hb)
  have ge : G'.get? e = none := g2 e (by simp)
  have old : ∀ b o, hp.get? b = some o → G'.get? b = some o := fun b o q => (gk b (Nat.ne_of_lt (Nat.lt_of_lt_of_le (Heap.lt_size q) M.new))).trans (M.keep b o q)
  have ob : ObjOk X.prog X.w (upd H1 d (.xd (fs.zip vs).reverse)) G' d (.xd (fs.zip vs).reverse) :=
    ⟨mB, hns.at (fun o q => (gk d M.dne).trans q), hrel⟩
  have J : Inv X pins σ (upd H1 d (.xd (fs.zip vs).reverse)) ⟨G', g, dr, tk', os⟩ := I1.laid (t' := tk') old M.dbig ob
  refine ⟨e, oe, fv, ⟨G', g, dr, tk', os⟩, _, .ref C, some d, rfl, J, fun b o q => ?_, ge, hoe, ⟨hc, hd⟩, hdat, h1, ?_, rfl, I1.bare, raises_own T.exC T.tyC, q1 d (I1.hok.fresh M.dbig)⟩
  · by_cases hb : b = e
    · have q' : G'.get? b = some o := q
      rw [hb, ge] at q'; cases q'
    · exact (gk b hb).symm.trans q
  · rw [upd_ne (Ne.symm M.dne)]
    exact I1.hok.fresh M.new
/-- raise C(e, ..) -/
def tRaiseE (tm : Bool) (C : Addr) (fs : List Str) (W : WX) (ta : TA) : TS := fun _ σ H => tMkE tm C fs ta σ H fun cls d H' => W cls d σ H'
theorem ps_raiseE {a : Expr} {as : List Expr} {ta : TA} {W : WX} {p pos pos2 : Pos} {k : Nat} (hc : X.calm = true) (T : ErrTxt X.prog X.K X.mg tm cn C fI fs) (hr : Room k X.A) (tk : Takes X W) (ha : PA X (a :: as) ta) (hl8 : fs.length ≤ 8 := by decide) (hne : fs ≠ [] := by decide) (hg : Gl X cn := by rfl) (hdb : (cn == ("__debug__" : Str)) = false := by decide)
    (he : starEach (a :: as) X.env = (false, eval a X.env) :: starEach as X.env := by rfl) (hpl : (backTo pos (starEach as X.env)).any (·.1) = false := by rfl) :
    PS X (.Raise (some (.Call (.Name cn p) (a :: as) [] pos)) none pos2) (tRaiseE tm C fs W ta) := ps_raise hc tk (pmk_err T hr ha hl8 hne hg hdb he hpl)
/-- an own class in an except clause -/
theorem _root_.PySem.HErr.ErrTxt.xf {P : Program} {K : PySem.W.Frag} {mg : Str → Option Value} (T : ErrTxt P K mg tm cn C fI fs) : XfC K C := ⟨T.ga, T.gg, T.exC, T.hdC⟩
theorem _root_.PySem.HErr.ErrTxt.te {P : Program} {K : PySem.W.Frag} {mg : Str → Option Value} (T : ErrTxt P K mg tm cn C fI fs) : PySem.W.exmOne K (.ref C) (.ref C) = some true := PySem.W.exm_ref T.exC T.hdC T.tyC T.sub
/-- what isinstance asks of the class of an error -/
structure IsC (K : PySem.W.Frag) (D : Addr) : Prop where
  hg : PySem.W.findIn K (.ref D) "__getattribute__" = some (some (.builtin "BaseException.__getattribute__"))
  hk : PySem.W.findIn K (.ref D) "__getattr__" = some none
  hs : PySem.W.subIn K (.ref D) (.type "BaseException") = some true
  hd : PySem.W.hasDictIn K D = true
  ha : PySem.W.findIn K (.ref D) "__class__" = some (some (.builtin "object.__class__"))
  hn : PySem.W.specialIn K (.builtin "object.__class__") "__get__" = some (some (.builtin "getset_descriptor.__get__"))
  ht : PySem.W.takesIn K (.builtin "object.__class__") = some true
  hm : PySem.W.mroIn K D (.type "object") = some true
theorem _root_.PySem.HErr.ErrTxt.isC {P : Program} {K : PySem.W.Frag} {mg : Str → Option Value} (T : ErrTxt P K mg tm cn C fI fs) : IsC K C := ⟨T.ga, T.gg, T.exC, T.hdC, T.ca, T.cg, T.ct, T.mo⟩
/-- isinstance(e, c), e the error (with fields) that the suite holds -/
def rIsD (K : PySem.W.Frag) (cls : Value) (d : Option Addr) (a : Addr) : List V → Hp → VK → Prop := fun xs H Q => ∃ (D dd : Addr) (fs : List (Str × V)) (c : V) (cv : Value) (b : Bool), cls = .ref D ∧ IsC K D ∧ d = some dd ∧ H dd = some (.xd fs) ∧ xs = [.ref a, c] ∧ (∀ u, RelV c u → u = cv) ∧ PySem.W.kitOne K (.ref D) cv = some b ∧ Q (.bl b) H
end
end L2
set_option Elab.async false
set_option linter.all false
set_option maxRecDepth 100000
set_option maxHeartbeats 4000000
namespace L2
open PySem PySem.Spec PyProof.Rows PySem.HErr
abbrev Clause := Value × Option Nat × (Addr → Value → Option Addr → TS)
def endsAt (o : Option Nat) (D : Ends) : Ends := match o with
  | none => D
  | some i => { nx := fun σ H => D.nx (σ.set i none) H, rt := D.rt, bk := fun σ H => D.bk (σ.set i none) H, ct := fun σ H => D.ct (σ.set i none) H }
def slotAtH (o : Option Nat) (a : Addr) (σ : St) : St := match o with
  | none => σ
  | some i => σ.set i (some (.ref a))
/-- what the clauses want of an exception of the body, from the first on -/
def wClauses (K : PySem.W.Frag) (Wout : WX) (D : Ends) : List Clause → WX
  | [] => Wout
  | (c, o, ts) :: r => fun cls d σ H => ∃ b, PySem.W.exmOne K cls c = some b ∧ (b = true → ∀ a, H a = none → ts a cls d (endsAt o D) (slotAtH o a σ) H) ∧ (b = false → wClauses K Wout D r cls d σ H)
inductive Clauses (X : Cx) : List ExceptHandler → List Clause → Prop
  | nil : Clauses X [] []
  | bare {x : Str} {c : Value} {ts : Addr → Value → Option Addr → TS} {b₀ : Stmt} {suite : List Stmt} {np pos' : Pos} {hds : List ExceptHandler} {l : List Clause} (hc : Names X x c)
      (hsu : ∀ (a : Addr) (oe : Obj) (cls : Value) (d : Option Addr) (pn : List (Addr × Obj)), Zc cls d oe → (∃ vs, oe.data = .fields vs) → PSs (X.suite a ((a, oe) :: pn)) (b₀ :: suite) (ts a cls d)) (r : Clauses X hds l) :
      Clauses X (.ExceptHandler (some (.Name x np)) none (b₀ :: suite) pos' :: hds) ((c, none, ts) :: l)
  | named {x n : Str} {i : Nat} {c : Value} {ts : Addr → Value → Option Addr → TS} {b₀ : Stmt} {suite : List Stmt} {np pos' : Pos} {hds : List ExceptHandler} {l : List Clause} (hi : X.N[i]? = some n) (hln : X.env.kindOf n = some .local) (hc : Names X x c)
      (hsu : ∀ (a : Addr) (oe : Obj) (cls : Value) (d : Option Addr) (pn : List (Addr × Obj)), Zc cls d oe → (∃ vs, oe.data = .fields vs) → PSs (X.suite a ((a, oe) :: pn)) (b₀ :: suite) (ts a cls d)) (r : Clauses X hds l) :
      Clauses X (.ExceptHandler (some (.Name x np)) (some n) (b₀ :: suite) pos' :: hds) ((c, some i, ts) :: l)
section
variable {X : Cx} {body : List Stmt} {h₀ : ExceptHandler} {hds : List ExceptHandler} {l : List Clause} {pos : Pos} {tb : WX → TS} {Wout : WX}
theorem ps_try_all (hs : X.stack = X.env :: X.outer) (hf : X.env.frame = some X.env.locals) (hN : X.N.Nodup) (tk : Takes X Wout)
    (hb : ∀ (W : WX) (pn : List (Addr × Obj)) (xe : Value → Shared → Prop), Takes (X.tr pn xe) W → PassesOwn (model X.prog X.w) X.A X.env xe → PSs (X.tr pn xe) body (tb W))
    (hh : Clauses X (h₀ :: hds) l) {K : PySem.W.Frag} (hK : X.K = K := by rfl) : PS X (.Try body (h₀ :: hds) [] [] pos) (fun D σ H => tb (wClauses K Wout D l) D σ H) := by
  subst hK
  refine ⟨fun pins s σ H D I h => ?_⟩
  have ok := I.ok
  have hfr : X.A.frames = some (X.env :: X.outer) := by rw [ok.frames, hs]
  refine wpAny_Try_except ?_
  refine wpAny_mono ((hb (wClauses X.K Wout D l) (X.pn ++ pins) (fun e s₁ => wpAny (model X.prog X.w) X.A (noteFrame e X.env) (fun _ s₂ => wpAny (model X.prog X.w) X.A (setFlight e none) (fun _ s₃ =>
    wpAny (model X.prog X.w) X.A (handleBy e X.env (h₀ :: hds)) (SP X pins D) X.xe s₃) X.xe s₂) X.xe s₁) (fun u s' xx => ?_) PassesOwn.looking).run [] s σ H D (I.toTry _) h) (fun f s1 hsp => ?_) (fun e s1 he => he)
  · obtain ⟨a, Bg, sI, pins', σ', H', cls, d, rfl, J', nb, up, sky, na, os, ag, ww⟩ := xx
    have J : Inv X pins σ' H' sI := J'.ofTry ok
    have sky' : Sky Bg (X.env :: X.outer) a (Zc cls d) X.env.locals s'.heap := by rw [← hs]; exact sky
    show wpAny (model X.prog X.w) X.A (noteFrame (.ref a) X.env) _ _ _
    refine Sky.land Zc.steady hfr hf sky' fun h3 fl3 up3 => ?_
    have J3 : Inv X pins σ' H' { s' with heap := h3 } := J.landed nb fl3.1 (up.trans up3) os ag
    obtain ⟨oe3, vs3, he3, hz3, hd3⟩ := fl3.there
    have nfr : a ∉ frs (X.env :: X.outer) := fun hm => by
      obtain ⟨_, o', e', hnf⟩ := fl3.2.2.1.mem hm
      rw [he3] at e'
      cases e'
      exact hnf _ hd3
    have nL : a ≠ X.env.locals := fun z => nfr (List.mem_filterMap.mpr ⟨X.env, List.mem_cons_self, by rw [hf, z]⟩)
    have nF : a ∉ X.fs := fun hm => by
      obtain ⟨e, he, q⟩ := List.mem_filterMap.mp hm
      exact nfr (List.mem_filterMap.mpr ⟨e, List.mem_cons_of_mem _ he, q⟩)
    have S3 := J3.suite he3 hd3 na nL nF
    have test : ∀ {x : Str} {c : Value} {np : Pos} {Q : Value → Shared → Prop} {E : Value → Shared → Prop}, Names X x c → Q c { s' with heap := h3 } → wpAny (model X.prog X.w) (X.A.mark (some (.ref a))) (eval (.Name x np) X.env) Q E { s' with heap := h3 } := fun {x c np Q E} hc q => by
      obtain ⟨hg, hdbg, hm | ⟨hm, hv, hnn⟩⟩ := hc
      · exact ld_glob (X := X.suite a ((a, oe3) :: (X.pn ++ pins))) S3 hg hm q hdbg
      · exact ld_blt (X := X.suite a ((a, oe3) :: (X.pn ++ pins))) S3 hg hm hv q hnn hdbg
    have LT : PySem.W.Looks (model X.prog X.w) h3 (typeOf (.ref a)) cls := fun A Q E s k q => wpAny_typeOf_ref (k _ _ he3) (by rw [hz3.1]; exact q)
    have go : ∀ {hds' : List ExceptHandler} {l' : List Clause}, Clauses X hds' l' → wClauses X.K Wout D l' cls d σ' H' →
        wpAny (model X.prog X.w) X.A (handleBy (.ref a) X.env hds') (SP X pins D) X.xe { s' with heap := h3 } := by
      intro hds' l' hk
      induction hk with
      | nil =>
        intro ww
        refine wpAny_handleBy_nil ?_
        obtain ⟨k1, k2, k3, oe, vs, T, oT, ts', he, hz, hd, h1, hr⟩ := id fl3
        unfold PySem.passOn
        refine wpAny_bind (wpAny_field he hd h1 ?_)
        rw [if_neg (show ¬ ((Value.ref T == Value.none) = true) from by simp)]
        have fin : wpAny (model X.prog X.w) X.A (setFlight (.ref a) X.env.frame) (fun _ s4 => wpAny (model X.prog X.w) X.A (throw (.ref a) : Sem Flow) (SP X pins D) X.xe s4) X.xe { s' with heap := h3 } := by
          rw [hf]
          refine HandSPX.setFlight_upZ fl3 fun h4 hh4 up4 => wpAny_throw (tk _ _ ?_)
          exact ⟨a, Bg, sI, pins, σ', H', cls, d, rfl, J, nb, (up.trans up3).trans up4, .inr (.inr (by rw [hs]; exact hh4)), na, os, ag, ww⟩
        first
          | exact wpAny_bind (wpAny_pure (wpAny_bind fin))
          | exact wpAny_bind fin
      | @bare x c ts b₀ suite np pos' hds2 l2 hc hsu r ih =>
        intro ww
        obtain ⟨b, hb1, hyes, hno⟩ := ww
        refine wpAny_handleBy_cons (codeAny_handlers_test ?_) (by intro q; cases q)
        have LM := PySem.W.exm_one (M := model X.prog X.w) (J3.kIn) LT hb1
        refine test hc (LM.here ?_)
        cases b with
        | true =>
          refine codeAny_handlers_suite (HandSPX.lands_againZ fl3 fun h4 fl4 up4 => ?_)
          have J4 : Inv X pins σ' H' { s' with heap := h4 } := J.landed nb fl4.1 ((up.trans up3).trans up4) os ag
          obtain ⟨oe4, vs4, he4, hz4, hd4⟩ := fl4.there
          have S4 := J4.suite he4 hd4 na nL nF
          refine wpAny_mono ((hsu a oe4 cls d (X.pn ++ pins) hz4 ⟨_, hd4⟩).run [] _ _ H' _ S4 (hyes rfl a na)) (fun f s6 hsp => ?_) (fun _ _ z => False.elim z)
          cases f with
          | ret u =>
            obtain ⟨v6, σ6, H6, S6, r6, q6⟩ := hsp
            exact ⟨_, _, _, S6.unsuite ok, r6, q6⟩
          | _ =>
            obtain ⟨σ6, H6, S6, q6⟩ := hsp
            exact ⟨_, _, S6.unsuite ok, q6⟩
        | false =>
          show wpAny _ X.A (handleBy (.ref a) X.env hds2) _ _ _
          exact ih (hno rfl)
      | @named x n i c ts b₀ suite np pos' hds2 l2 hi hln hc hsu r ih =>
        intro ww
        obtain ⟨b, hb1, hyes, hno⟩ := ww
        refine wpAny_handleBy_cons (codeAny_handlers_test ?_) (by intro q; cases q)
        have LM := PySem.W.exm_one (M := model X.prog X.w) (J3.kIn) LT hb1
        refine test hc (LM.here ?_)
        cases b with
        | true =>
          refine codeAny_handlers_suite_as (HandSPX.lands_againZ fl3 fun h4 fl4 up4 => ?_)
          have J4 : Inv X pins σ' H' { s' with heap := h4 } := J.landed nb fl4.1 ((up.trans up3).trans up4) os ag
          obtain ⟨oe4, vs4, he4, hz4, hd4⟩ := fl4.there
          have S4 := J4.suite he4 hd4 na nL nF
          refine store_ok (X := X.suite a ((a, oe4) :: (X.pn ++ pins))) (v := .ref a) S4 hN hi (.inl hln) rfl (fun s5 S5 => ?_) (.inr hln)
          refine wpAny_mono ((hsu a oe4 cls d (X.pn ++ pins) hz4 ⟨_, hd4⟩).run [] s5 _ H' _ S5 (hyes rfl a na)) (fun f s6 hsp => ?_) (fun _ _ z => False.elim z)
          have end_ : ∀ {σ6 : St} {H6 : Hp} {Q : Shared → Prop}, Inv (X.suite a ((a, oe4) :: (X.pn ++ pins))) [] σ6 H6 s6 → (∀ s7, Inv X pins (σ6.set i none) H6 s7 → Q s7) →
              wpAny (model X.prog X.w) X.A (do bindName X.env n .none; unbindBehindTheSuite X.env n pos') (fun _ s7 => Q s7) X.xe s6 := fun {σ6 H6 Q} S6 hq => gone_ok (S6.unsuite ok) hN hi hln hq
          cases f with
          | ret u =>
            obtain ⟨v6, σ6, H6, S6, r6, q6⟩ := hsp
            exact end_ S6 fun s7 J7 => ⟨_, _, _, J7, r6, q6⟩
          | next =>
            obtain ⟨σ6, H6, S6, q6⟩ := hsp
            exact end_ S6 fun s7 J7 => ⟨_, _, J7, q6⟩
          | brk =>
            obtain ⟨σ6, H6, S6, q6⟩ := hsp
            exact end_ S6 fun s7 J7 => ⟨_, _, J7, q6⟩
          | cont =>
            obtain ⟨σ6, H6, S6, q6⟩ := hsp
            exact end_ S6 fun s7 J7 => ⟨_, _, J7, q6⟩
        | false =>
          show wpAny _ X.A (handleBy (.ref a) X.env hds2) _ _ _
          exact ih (hno rfl)
    exact go hh ww
  · cases f with
    | next =>
      obtain ⟨σ', H', J', q⟩ := hsp
      exact wpAny_execs_nil ⟨σ', H', J'.ofTry ok, q⟩
    | brk =>
      obtain ⟨σ', H', J', q⟩ := hsp
      exact ⟨σ', H', J'.ofTry ok, q⟩
    | cont =>
      obtain ⟨σ', H', J', q⟩ := hsp
      exact ⟨σ', H', J'.ofTry ok, q⟩
    | ret u =>
      obtain ⟨v, σ', H', J', r, q⟩ := hsp
      exact ⟨v, σ', H', J'.ofTry ok, r, q⟩
end
end L2
set_option Elab.async false
set_option linter.all false
set_option maxRecDepth 100000
set_option maxHeartbeats 4000000
namespace L2
open PySem PySem.Spec PyProof.Rows PySem.HErr
/-- none of these built-ins is shadowed -/
structure Bl (mg : Str → Option Value) : Prop where
  len : mg "len" = none
  range : mg "range" = none
  abs : mg "abs" = none
  sum : mg "sum" = none
  sorted : mg "sorted" = none
  isinstance : mg "isinstance" = none
  zip : mg "zip" = none
  enumerate : mg "enumerate" = none
  reversed : mg "reversed" = none
  int' : mg "int" = none
  str' : mg "str" = none
  list' : mg "list" = none
  tuple' : mg "tuple" = none
  bool' : mg "bool" = none
  all' : mg "all" = none
  any' : mg "any" = none
  ValueError : mg "ValueError" = none
/-- the module's name x is the value v -/
def Glo (mg : Str → Option Value) (x : Str) (v : V) : Prop := ∃ u, mg x = some u ∧ RelV v u
/-- where a def's text stands -/
def LkF (K : PySem.W.Frag) (f : Addr) (fd : FuncData) : Prop := ∃ (oc : Value) (od : Option Addr) (osl : Array (Option Value)), K.lookup f = some ⟨oc, od, .func fd, osl⟩
/-- a def, with whatever defaults -/
structure FunA (K : PySem.W.Frag) (x qual : Str) (st : Stmt) (f : Addr) (fd : FuncData) : Prop where
  ex : ∃ (oc : Value) (od : Option Addr) (dV kV doc pm : Value) (an : Option Addr) (cdv ct : Value) (osl : Array (Option Value)),
    fd = PySem.W.fnOf x qual (defArgs st) (defBody st) (defScope st) dV kV doc pm an cdv ct ∧ K.lookup f = some ⟨oc, od, .func fd, osl⟩ ∧ PySem.W.codeIn K cdv qual = true
  kp : PySem.W.keepIn K (.ref f) = true
section
variable {P : Program} {w : World} {K : PySem.W.Frag} {mg : Str → Option Value} {base : Heap}
theorem FunA.lk {x qual : Str} {st : Stmt} {f : Addr} {fd : FuncData} (F : FunA K x qual st f fd) : LkF K f fd := by
  obtain ⟨oc, od, dV, kV, doc, pm, an, cdv, ct, osl, _, lk, _⟩ := F.ex
  exact ⟨oc, od, osl, lk⟩
theorem PySem_Fun_a {x qual : Str} {st : Stmt} {f : Addr} {fd : FuncData} (F : Fun K x qual st f fd) : FunA K x qual st f fd := by
  obtain ⟨oc, od, kV, doc, pm, an, cdv, ct, osl, e, lk, hcd⟩ := F.ex
  exact ⟨⟨oc, od, .none, kV, doc, pm, an, cdv, ct, osl, e, lk, hcd⟩, F.kp⟩
theorem FunA.ok {x qual : Str} {st : Stmt} {f : Addr} {fd : FuncData} {N ps : List Str} {k : Nat} {sp : Sp} (F : FunA K x qual st f fd) (S : FnScope N ps (defScope st)) (len : ∀ vs H Q E, sp vs H Q E → vs.length = ps.length)
    (hbody : ∀ (cdv : Value) (A : Around) (outer : List Env) (s : Shared) (H : Hp) (vs : List V) (Q : VK) (E : XK), Room k (A.deeper (envOfC qual (defScope st) s.heap.objs.size f cdv)) → sp vs H Q E →
      ∃ t, PSs (cxOf CX0 P w K mg base N qual (defScope st) f cdv A outer s H E).nox (defBody st) t ∧ t { nx := fun _ H' => Q .non H', rt := Q } (start N vs) H) : FnOk P w K mg base CX0 (k + 1) f fd ps sp := by
  obtain ⟨oc, od, dV, kV, doc, pm, an, cdv, ct, osl, rfl, lk, hcd⟩ := F.ex
  refine fn_of lk hcd S len fun A outer s H vs Q E hr hsp => ?_
  obtain ⟨t, h, q⟩ := hbody cdv A outer s H vs Q E hr hsp
  exact ⟨t, h.nox, q⟩
theorem FunA.okX {x qual : Str} {st : Stmt} {f : Addr} {fd : FuncData} {N ps : List Str} {k : Nat} {sp : Sp} (F : FunA K x qual st f fd) (S : FnScope N ps (defScope st)) (len : ∀ vs H Q E, sp vs H Q E → vs.length = ps.length)
    (hbody : ∀ (cdv : Value) (A : Around) (outer : List Env) (s : Shared) (H : Hp) (vs : List V) (Q : VK) (E : XK), Room k (A.deeper (envOfC qual (defScope st) s.heap.objs.size f cdv)) → sp vs H Q E →
      ∃ t, PSs (cxOf (L2.CX P w) P w K mg base N qual (defScope st) f cdv A outer s H E) (defBody st) t ∧ t { nx := fun _ H' => Q .non H', rt := Q } (start N vs) H) : FnOk P w K mg base (L2.CX P w) (k + 1) f fd ps sp := by
  obtain ⟨oc, od, dV, kV, doc, pm, an, cdv, ct, osl, rfl, lk, hcd⟩ := F.ex
  exact fn_of lk hcd S len fun A outer s H vs Q E hr hsp => hbody cdv A outer s H vs Q E hr hsp
end
/-- a def of the text stands where its name says -/
structure Src (K : PySem.W.Frag) (mg : Str → Option Value) (x : Str) (st : Stmt) (ps : List Str) : Prop where
  ex : ∃ f fd, FunA K x x st f fd ∧ mg x = some (.ref f) ∧ Binds K fd ps []
/-- the def x keeps the promise sp -/
structure Def (P : Program) (w : World) (K : PySem.W.Frag) (mg : Str → Option Value) (base : Heap) (CX : CXT) (k : Nat) (x : Str) (ps : List Str) (sp : Sp) : Prop where
  ex : ∃ f fd, LkF K f fd ∧ mg x = some (.ref f) ∧ PySem.W.keepIn K (.ref f) = true ∧ Binds K fd ps [] ∧ FnOk P w K mg base CX k f fd ps sp
section
variable {P : Program} {w : World} {K : PySem.W.Frag} {mg : Str → Option Value} {base : Heap} {CX : CXT} {x : Str} {st : Stmt} {N ps : List Str} {k : Nat} {sp : Sp}
theorem Def.mono {j : Nat} (D : Def P w K mg base CX j x ps sp) (h : j ≤ k) : Def P w K mg base CX k x ps sp := by
  obtain ⟨f, fd, hlk, h1, h2, h3, h4⟩ := D.ex
  exact ⟨f, fd, hlk, h1, h2, h3, h4.mono h⟩
theorem Def.imp {sp' : Sp} (D : Def P w K mg base CX k x ps sp) (h : ∀ vs H Q E, sp' vs H Q E → sp vs H Q E) : Def P w K mg base CX k x ps sp' := by
  obtain ⟨f, fd, hlk, h1, h2, h3, h4⟩ := D.ex
  exact ⟨f, fd, hlk, h1, h2, h3, h4.imp h⟩
theorem Src.ok (F : Src K mg x st ps) (S : FnScope N ps (defScope st)) (len : ∀ vs H Q E, sp vs H Q E → vs.length = ps.length)
    (hbody : ∀ (f : Addr) (cdv : Value) (A : Around) (outer : List Env) (s : Shared) (H : Hp) (vs : List V) (Q : VK) (E : XK), Room k (A.deeper (envOfC x (defScope st) s.heap.objs.size f cdv)) → sp vs H Q E →
      ∃ t, PSs (cxOf CX0 P w K mg base N x (defScope st) f cdv A outer s H E).nox (defBody st) t ∧ t { nx := fun _ H' => Q .non H', rt := Q } (start N vs) H) : Def P w K mg base CX0 (k + 1) x ps sp := by
  obtain ⟨f, fd, h1, h2, h3⟩ := F.ex
  exact ⟨f, fd, h1.lk, h2, h1.kp, h3, h1.ok S len (hbody f)⟩
theorem Src.okX (F : Src K mg x st ps) (S : FnScope N ps (defScope st)) (len : ∀ vs H Q E, sp vs H Q E → vs.length = ps.length)
    (hbody : ∀ (f : Addr) (cdv : Value) (A : Around) (outer : List Env) (s : Shared) (H : Hp) (vs : List V) (Q : VK) (E : XK), Room k (A.deeper (envOfC x (defScope st) s.heap.objs.size f cdv)) → sp vs H Q E →
      ∃ t, PSs (cxOf (L2.CX P w) P w K mg base N x (defScope st) f cdv A outer s H E) (defBody st) t ∧ t { nx := fun _ H' => Q .non H', rt := Q } (start N vs) H) : Def P w K mg base (L2.CX P w) (k + 1) x ps sp := by
  obtain ⟨f, fd, h1, h2, h3⟩ := F.ex
  exact ⟨f, fd, h1.lk, h2, h1.kp, h3, h1.okX S len (hbody f)⟩
end
section
variable {X : Cx} {CX : CXT} {k : Nat} {ps : List Str} {sp : Sp} {x : Str} {p pos : Pos} {e : Expr} {es : List Expr} {t : TA}
theorem pe_def {E : XK} (D : Def X.prog X.w X.K X.mg X.base CX k x ps sp) (hr : Room k X.A) (hx : Passes CX X E) (ha : PA X (e :: es) t) (hg : Gl X x := by rfl)
    (hdb : (x == ("__debug__" : Str)) = false := by decide) (he : starEach (e :: es) X.env = (false, eval e X.env) :: starEach es X.env := by rfl) (hpl : (backTo pos (starEach es X.env)).any (·.1) = false := by rfl) :
    PE X (.Call (.Name x p) (e :: es) [] pos) (tCall sp [] E t) := by
  obtain ⟨f, fd, hlk, h1, h2, h3, h4⟩ := D.ex
  exact pe_call h4 hr hg h1 h2 h3 .nil hx ha hdb he hpl
theorem pe_defS {E : St → XK} (D : Def X.prog X.w X.K X.mg X.base CX k x ps sp) (hr : Room k X.A) (hx : ∀ σ, PassesAt CX X σ (E σ)) (ha : PA X (e :: es) t) (hg : Gl X x := by rfl)
    (hdb : (x == ("__debug__" : Str)) = false := by decide) (he : starEach (e :: es) X.env = (false, eval e X.env) :: starEach es X.env := by rfl) (hpl : (backTo pos (starEach es X.env)).any (·.1) = false := by rfl) :
    PE X (.Call (.Name x p) (e :: es) [] pos) (tCallS sp E t) := by
  obtain ⟨f, fd, hlk, h1, h2, h3, h4⟩ := D.ex
  exact pe_callS h4 hr hg h1 h2 h3 hx ha hdb he hpl
theorem pe_glo {v : V} (h : Glo X.mg x v) (hg : Gl X x := by rfl) (hd : (x == ("__debug__" : Str)) = false := by decide) : PE X (.Name x p) (tC v) := by
  obtain ⟨u, h1, h2⟩ := h
  exact pe_glob hg h1 h2 hd
end
section
variable {X : Cx} {K : PySem.W.Frag}
def rLenQ (K : PySem.W.Frag) : List V → Hp → VK → Prop := fun xs H Q => ∃ p ys, xs = [.ref p] ∧ (SqL K H p ys ∨ SqT K H p ys) ∧ Q (.int ys.length) H
def rListQ (K : PySem.W.Frag) : List V → Hp → VK → Prop := fun xs H Q => ∃ p ys, xs = [.ref p] ∧ (SqL K H p ys ∨ SqT K H p ys) ∧ ∀ l, H l = none → Q (.ref l) (upd H l (.lst ys))
def rTupQ (K : PySem.W.Frag) : List V → Hp → VK → Prop := fun xs H Q => ∃ p ys, xs = [.ref p] ∧ ((SqL K H p ys ∧ ∀ l, H l = none → Q (.ref l) (upd H l (.tup ys))) ∨ (SqT K H p ys ∧ Q (.ref p) H))
theorem kix_list (h : X.K = K := by rfl) : IxR X (rIxL K) := h ▸ ix_list
theorem kix_tup (h : X.K = K := by rfl) : IxR X (rIxT K) := h ▸ ix_tup
theorem ksl_list (h : X.K = K := by rfl) : SlR X (rSlL K) := h ▸ sl_list
theorem kop_in (h : X.K = K := by rfl) : OpR X (compareOp .In) (rIn K false) := h ▸ op_in_seq
theorem kop_notIn (h : X.K = K := by rfl) : OpR X (compareOp .NotIn) (rIn K true) := h ▸ op_notIn_seq
theorem kop_eqD (hu : X.A.units + 64 < cLine) (h : X.K = K := by rfl) : OpR X (compareOp .Eq) (rEqD K) := h ▸ op_eqD hu
theorem kop_neD (hu : X.A.units + 64 < cLine) (h : X.K = K := by rfl) : OpR X (compareOp .NotEq) (rNeD K) := h ▸ op_neD hu
theorem kcall_len (h : X.K = K := by rfl) : CallR X (.builtin "len") (rLenQ K) := h ▸ call_len_seq
theorem kcall_list (h : X.K = K := by rfl) : CallR X (.type "list") (rListQ K) := h ▸ call_list_of
theorem kcall_tuple (h : X.K = K := by rfl) : CallR X (.type "tuple") (rTupQ K) := h ▸ call_tuple_of
theorem kcr_all (hc : X.calm = true) (h : X.K = K := by rfl) : CallR X (.builtin "all") (rAll K) := h ▸ cr_all hc
theorem kcall_isi (h : X.K = K := by rfl) : CallR X (.builtin "isinstance") (rIsi K) := h ▸ call_isi
theorem kpi_list {tg l : Expr} {tl : TE} (hl : PE X l tl) (h : X.K = K := by rfl) : PI X tg l (iList K tl) := h ▸ pi_list hl
theorem kpi_tup {tg l : Expr} {tl : TE} (hl : PE X l tl) (h : X.K = K := by rfl) : PI X tg l (iTup K tl) := h ▸ pi_tup hl
theorem kpe_fld {e : Expr} {f : Str} {pos : Pos} {ta : TE} (he : PE X e ta) (hb : attributeBase e f X.env (eval e X.env) = eval e X.env := by rfl) (h : X.K = K := by rfl) : PE X (.Attribute e f pos) (tFld K ta f) := h ▸ pe_fld he hb
end
/-- a comprehension without an if; with one -/
theorem yes_if {σ : St} {H : Hp} {A B : Hp → Prop} (h : A H) : tYes σ H (fun b H3 => if b = true then A H3 else B H3) := by
  show (if true = true then A H else B H)
  rw [if_pos rfl]
  exact h
theorem same_upd {H : Hp} {p : Addr} {o : HO} (h : H p = none) : Same H (upd H p o) := fun b x e => by
  rw [upd_ne (ne_of_none e h)]
  exact e
/-- all that was tracked is as it was, but for what stands at b -/
def SameB (b : Addr) (H H' : Hp) : Prop := ∀ a o, a ≠ b → H a = some o → H' a = some o
theorem SameB.refl (b : Addr) (H : Hp) : SameB b H H := fun _ _ _ h => h
theorem SameB.trans {b : Addr} {H H1 H2 : Hp} (x : SameB b H H1) (y : SameB b H1 H2) : SameB b H H2 := fun a o n h => y a o n (x a o n h)
theorem Same.b {b : Addr} {H H' : Hp} (h : Same H H') : SameB b H H' := fun a o _ e => h a o e
theorem SameB.upd {b : Addr} {H H' : Hp} {o : HO} (h : SameB b H H') : SameB b H (upd H' b o) := fun a u n e => by
  rw [upd_ne n]
  exact h a u n e
theorem SameB.new {b p : Addr} {H H' : Hp} {o : HO} (h : SameB b H H') (n : H' p = none) : SameB b H (L2.upd H' p o) := fun a u hn e => by
  have := h a u hn e
  rw [upd_ne (ne_of_none this n)]
  exact this
/-- an object that H does not know may change -/
theorem SameB.mut {b p : Addr} {H H' : Hp} {o : HO} (h : SameB b H H') (n : H p = none) : SameB b H (L2.upd H' p o) := fun a u hn e => by
  rw [upd_ne (ne_of_none e n)]
  exact h a u hn e
theorem SameB.free {b l : Addr} {H H' : Hp} (e : SameB b H H') (hb : l ≠ b) (h : H' l = none) : H l = none := by
  cases q : H l with
  | none => rfl
  | some o =>
    rw [e l o hb q] at h
    cases h
theorem SameB.seq {K : PySem.W.Frag} {b : Addr} {H H' : Hp} {a : Addr} {xs : List V} (e : SameB b H H') (n : a ≠ b) (h : SqL K H a xs) : SqL K H' a xs := by
  rcases h with (h | ⟨o, h⟩) | h
  · exact .inl (.inl (e _ _ n h))
  · exact .inl (.inr ⟨o, e _ _ n h⟩)
  · exact .inr h
/-- an error of the class at C with these fields is what E wants, whatever was made meanwhile -/
def Rais (E : XK) (H : Hp) (C : Addr) (fs : List (Str × V)) : Prop := ∀ H' d, Same H H' → H d = none → H' d = some (.xd fs) → E (.ref C) (some d) H'
theorem Rais.go {E : XK} {H H' : Hp} {C d : Addr} {fs : List (Str × V)} (h : Rais E H C fs) (sm : Same H H') (n : H' d = none) : E (.ref C) (some d) (upd H' d (.xd fs)) :=
  h _ d (sm.trans (same_upd n)) (sm.free n) upd_same
/-- the law's box of draws stands at b, its script at l -/
structure Box (H : Hp) (b l : Addr) : Prop where
  ex : ∃ (ns : List Int) (i c r : Int), H b = some (.lst [.int i, .int c, .int r, .ref l]) ∧ H l = some (.lst (ns.map V.int)) ∧ 0 ≤ i ∧ l ≠ b
theorem Box.keep {H H' : Hp} {b l : Addr} (h : Box H b l) (e : Same H H') : Box H' b l := by
  obtain ⟨ns, i, c, r, h1, h2, h3, h4⟩ := h.ex
  exact ⟨ns, i, c, r, e _ _ h1, e _ _ h2, h3, h4⟩
theorem Box.neb {H : Hp} {b l p : Addr} (h : Box H b l) (n : H p = none) : p ≠ b := fun e => by
  obtain ⟨ns, i, c, r, h1, h2, h3, h4⟩ := h.ex
  rw [e, h1] at n
  cases n
theorem Box.nel {H : Hp} {b l p : Addr} (h : Box H b l) (n : H p = none) : p ≠ l := fun e => by
  obtain ⟨ns, i, c, r, h1, h2, h3, h4⟩ := h.ex
  rw [e, h2] at n
  cases n
theorem Box.mut {H : Hp} {b l p : Addr} {o : HO} (h : Box H b l) (nb : p ≠ b) (nl : p ≠ l) : Box (upd H p o) b l := by
  obtain ⟨ns, i, c, r, h1, h2, h3, h4⟩ := h.ex
  exact ⟨ns, i, c, r, by rw [upd_ne (Ne.symm nb)]; exact h1, by rw [upd_ne (Ne.symm nl)]; exact h2, h3, h4⟩
/-- from H to H' only draws were taken and new objects made -/
structure Bx (b l : Addr) (H H' : Hp) : Prop where
  sm : SameB b H H'
  b0 : Box H b l
  b1 : Box H' b l
theorem Bx.trans {b l : Addr} {H H1 H2 : Hp} (x : Bx b l H H1) (y : Bx b l H1 H2) : Bx b l H H2 := ⟨x.sm.trans y.sm, x.b0, y.b1⟩
theorem Bx.same {b l : Addr} {H H1 H2 : Hp} (x : Bx b l H H1) (y : Same H1 H2) : Bx b l H H2 := ⟨x.sm.trans y.b, x.b0, x.b1.keep y⟩
theorem Bx.new {b l p : Addr} {H H' : Hp} {o : HO} (x : Bx b l H H') (n : H' p = none) : Bx b l H (upd H' p o) := x.same (same_upd n)
theorem Bx.mut {b l p : Addr} {H H' : Hp} {o : HO} (x : Bx b l H H') (n : H p = none) : Bx b l H (upd H' p o) := ⟨x.sm.mut n, x.b0, x.b1.mut (x.b0.neb n) (x.b0.nel n)⟩
theorem Bx.free {b l p : Addr} {H H' : Hp} (x : Bx b l H H') (n : H' p = none) : H p = none := x.sm.free (x.b1.neb n) n
theorem Bx.at {b l a : Addr} {H H' : Hp} {o : HO} (x : Bx b l H H') (h : H a = some o) (n : a ≠ b) : H' a = some o := x.sm a o n h
theorem Bx.seq {K : PySem.W.Frag} {b l : Addr} {H H' : Hp} {a : Addr} {xs : List V} (x : Bx b l H H') (n : a ≠ b) (h : SqL K H a xs) : SqL K H' a xs := x.sm.seq n h
/-- a text of ASCII signs -/
def Asc (z : Str) : Prop := ∀ c ∈ z.cps.toList, c < 128
theorem Asc.ok {z : Str} (h : Asc z) : PyData.strOk z = true := by
  unfold PyData.strOk
  rw [← Array.all_toList, List.all_eq_true]
  intro c hc
  have := h c hc
  exact decide_eq_true (by omega)
theorem Asc.app {x y : Str} (hx : Asc x) (hy : Asc y) : Asc (x ++ y) := by
  intro c hc
  rw [Str.cps_append, Array.toList_append] at hc
  rcases List.mem_append.mp hc with h | h
  · exact hx c h
  · exact hy c h
theorem Asc.one {c : Nat} (h : c < 128) : Asc ⟨#[c]⟩ := by
  intro d hd
  have : d = c := by simpa using hd
  omega
mutual
def nb : PyData → Bool
  | .none => true
  | .int _ => true
  | .str x => PyData.strOk x
  | .list xs => nbAll xs
  | .tuple xs => nbAll xs
  | .bool _ => false
  | .dict _ => false
def nbAll : List PyData → Bool
  | [] => true
  | x :: xs => nb x && nbAll xs
end
mutual
theorem lay_nb : ∀ d : PyData, nb d = true → PyData.canLay0 d = true
  | .none, _ => by simp only [PyData.canLay0]
  | .int _, _ => by simp only [PyData.canLay0]
  | .str x, h => by simp only [nb] at h; simp only [PyData.canLay0, h]
  | .list xs, h => by simp only [nb] at h; simp only [PyData.canLay0]; exact lay_nbAll xs h
  | .tuple xs, h => by simp only [nb] at h; simp only [PyData.canLay0]; exact lay_nbAll xs h
  | .bool _, h => by simp only [nb] at h; cases h
  | .dict _, h => by simp only [nb] at h; cases h
theorem lay_nbAll : ∀ ds : List PyData, nbAll ds = true → PyData.canLayAll0 ds = true
  | [], _ => by simp only [PyData.canLayAll0]
  | x :: xs, h => by
    simp only [nbAll, Bool.and_eq_true] at h
    simp only [PyData.canLayAll0, lay_nb x h.1, lay_nbAll xs h.2, Bool.and_self]
end
mutual
theorem eqv_nb : ∀ d e : PyData, nb d = true → nb e = true → (PyData.eqv d e = true ↔ d = e)
  | .none, e, _, he => by cases e <;> simp [PyData.eqv]
  | .int i, e, _, he => by cases e <;> simp [PyData.eqv, nb] at he ⊢
  | .str x, e, _, he => by cases e <;> simp [PyData.eqv]
  | .list xs, e, hd, he => by
    cases e with
    | list ys =>
      simp only [nb] at hd he
      simp only [PyData.eqv, eqv_nbAll xs ys hd he, PyData.list.injEq]
    | _ => simp [PyData.eqv]
  | .tuple xs, e, hd, he => by
    cases e with
    | tuple ys =>
      simp only [nb] at hd he
      simp only [PyData.eqv, eqv_nbAll xs ys hd he, PyData.tuple.injEq]
    | _ => simp [PyData.eqv]
  | .bool _, _, h, _ => by simp only [nb] at h; cases h
  | .dict _, _, h, _ => by simp only [nb] at h; cases h
theorem eqv_nbAll : ∀ ds es : List PyData, nbAll ds = true → nbAll es = true → (PyData.eqvAll ds es = true ↔ ds = es)
  | [], [], _, _ => by simp [PyData.eqvAll]
  | [], _ :: _, _, _ => by simp [PyData.eqvAll]
  | _ :: _, [], _, _ => by simp [PyData.eqvAll]
  | x :: xs, y :: ys, hd, he => by
    simp only [nbAll, Bool.and_eq_true] at hd he
    simp only [PyData.eqvAll, Bool.and_eq_true, eqv_nb x y hd.1 he.1, eqv_nbAll xs ys hd.2 he.2, List.cons.injEq]
end
theorem depthAll_le {n : Nat} : ∀ {ds : List PyData}, (∀ d ∈ ds, d.depth ≤ n) → PyData.depthAll ds ≤ n
  | [], _ => by simp [PyData.depthAll]
  | d :: ds, h => by
    simp only [PyData.depthAll]
    exact Nat.max_le.mpr ⟨h d (List.mem_cons_self ..), depthAll_le fun x hx => h x (List.mem_cons_of_mem _ hx)⟩
theorem shaped_of {d : PyData} (h : nb d = true) (hd : d.depth ≤ 64) : SeqAt.shaped d = true := by
  unfold SeqAt.shaped
  rw [lay_nb d h, decide_eq_true hd]
  rfl
theorem inV_strs (n : Str) (ws : List Str) : inV (.str n) (ws.map V.str) = decide (n ∈ ws) := by
  unfold inV
  rw [Bool.eq_iff_iff, List.any_eq_true, decide_eq_true_iff]
  constructor
  · rintro ⟨y, hy, e⟩
    obtain ⟨z, hz, rfl⟩ := List.mem_map.mp hy
    have e : z = n := by simpa [eqV] using e
    exact e ▸ hz
  · intro h
    exact ⟨.str n, List.mem_map_of_mem h, by simp [eqV]⟩
theorem flat_strsB (ws : List Str) : (ws.map V.str).all flatV = true := by
  rw [List.all_eq_true]
  intro y hy
  obtain ⟨z, hz, rfl⟩ := List.mem_map.mp hy
  rfl
/-- a list or a tuple -/
def Sq (K : PySem.W.Frag) (H : Hp) (a : Addr) (xs : List V) : Prop := SqL K H a xs ∨ SqT K H a xs
theorem Same.seqT {K : PySem.W.Frag} {H H' : Hp} {a : Addr} {xs : List V} (e : Same H H') (h : SqT K H a xs) : SqT K H' a xs := by
  rcases h with (h | ⟨o, h⟩) | h
  · exact .inl (.inl (e _ _ h))
  · exact .inl (.inr ⟨o, e _ _ h⟩)
  · exact .inr h
theorem Same.sq {K : PySem.W.Frag} {H H' : Hp} {a : Addr} {xs : List V} (e : Same H H') (h : Sq K H a xs) : Sq K H' a xs := h.elim (fun h => .inl (e.seq h)) (fun h => .inr (e.seqT h))
theorem map_get {α : Type} {f : α → V} {l : List α} {i : Nat} {x : V} (h : (l.map f)[i]? = some x) : ∃ z, l[i]? = some z ∧ x = f z := by
  rw [List.getElem?_map] at h
  cases e : l[i]? with
  | none => rw [e] at h; cases h
  | some z => rw [e] at h; exact ⟨z, rfl, (Option.some.inj h).symm⟩
theorem take_more {α : Type} {l : List α} {i : Nat} {x : α} (h : l[i]? = some x) : l.take (i + 1) = l.take i ++ [x] := by
  rw [List.take_add_one, h]
  rfl
section
variable {K : PySem.W.Frag} {H H' : Hp}
mutual
theorem Dp.keep (e : Same H H') : ∀ (d : PyData) (v : V), Dp K H v d → Dp K H' v d
  | .none, _, h => by cases h; exact .non
  | .bool _, _, h => by cases h; exact .bl _
  | .int _, _, h => by cases h; exact .int _
  | .str _, _, h => by cases h; exact .str _
  | .list ds, _, h => by
    cases h with
    | lst hs ha => exact .lst (e.seq hs) (DpAll.keep e ds _ ha)
  | .tuple ds, _, h => by
    cases h with
    | tup hs ha => exact .tup (e.seqT hs) (DpAll.keep e ds _ ha)
  | .dict _, _, h => by cases h
theorem DpAll.keep (e : Same H H') : ∀ (ds : List PyData) (vs : List V), DpAll K H vs ds → DpAll K H' vs ds
  | [], _, h => by cases h; exact .nil
  | d :: ds, _, h => by
    cases h with
    | cons h1 h2 => exact .cons (Dp.keep e d _ h1) (DpAll.keep e ds _ h2)
end
end
def LETTERS : Str := "abcdefghijklmnopqrstuvwxyz"
def DIGITS : Str := "0123456789"
def okc (c : Nat) : Bool := decide (c ∈ LETTERS.cps.toList) || decide (c ∈ DIGITS.cps.toList)
def wd (l : List Nat) : Bool := decide (1 ≤ l.length ∧ l.length ≤ 12) && (decide (l.headD 0 ∈ LETTERS.cps.toList) && l.all okc)
theorem len_cps (z : Str) : z.length = z.cps.toList.length := rfl
theorem all_take {α : Type} {p : α → Bool} {l : List α} {i : Nat} {c : α} (h : l[i]? = some c) : (l.take (i + 1)).map p = (l.take i).map p ++ [p c] := by
  rw [List.take_add_one, h, List.map_append]
  rfl
theorem all_id {α : Type} (p : α → Bool) (l : List α) : (l.map p).all id = l.all p := by
  rw [List.all_map]
  rfl
theorem wd_inv {l : List Nat} (h : wd l = true) : ∃ c r, l = c :: r ∧ c ∈ LETTERS.cps.toList ∧ (∀ d ∈ l, okc d = true) ∧ l.length ≤ 12 := by
  unfold wd at h
  rw [Bool.and_eq_true, Bool.and_eq_true] at h
  obtain ⟨h1, h2, h3⟩ := h
  have h1 := of_decide_eq_true h1
  have h2 := of_decide_eq_true h2
  cases l with
  | nil => exact absurd h1.1 (by decide)
  | cons c r => exact ⟨c, r, rfl, h2, List.all_eq_true.mp h3, h1.2⟩
theorem okc_lt {c : Nat} (h : okc c = true) : c < 128 := by
  unfold okc at h
  rw [Bool.or_eq_true, decide_eq_true_iff, decide_eq_true_iff] at h
  rcases h with h | h
  · exact of_decide_eq_true (List.all_eq_true.mp (show LETTERS.cps.toList.all (fun c => decide (c < 128)) = true by decide) c h)
  · exact of_decide_eq_true (List.all_eq_true.mp (show DIGITS.cps.toList.all (fun c => decide (c < 128)) = true by decide) c h)
/-- a text that is a word -/
def Wd (z : Str) : Prop := wd z.cps.toList = true
theorem Wd.asc {z : Str} (h : Wd z) : Asc z := fun c hc => by
  obtain ⟨_, _, _, _, ho, _⟩ := wd_inv h
  exact okc_lt (ho c hc)
theorem Wd.len {z : Str} (h : Wd z) : z.length ≤ 12 := by
  obtain ⟨_, _, _, _, _, hl⟩ := wd_inv h
  exact hl
def spare (z : Str) (k : Nat) : Str := cutS z none (some 9) ++ "x" ++ (toString (k : Int) : Str)
theorem cut_take (z : Str) (n : Nat) : (cutS z none (some (n : Int))).cps.toList = z.cps.toList.take n := by
  unfold cutS
  rw [HT.sIx_none, HT.sIx_nat]
  show (List.take (min n z.length - 0) (List.drop 0 z.cps.toList)).toArray.toList = _
  rw [List.drop_zero, Nat.sub_zero]
  show List.take (min n z.length) z.cps.toList = _
  rw [len_cps, Nat.min_comm]
  by_cases h : n ≤ z.cps.toList.length
  · rw [Nat.min_eq_right h]
  · rw [Nat.min_eq_left (by omega), List.take_length, List.take_of_length_le (by omega)]
theorem spare_cps (z : Str) (k : Nat) : (spare z k).cps.toList = z.cps.toList.take 9 ++ ([120] ++ (toString (k : Int) : Str).cps.toList) := by
  unfold spare
  rw [Str.cps_append, Array.toList_append, Str.cps_append, Array.toList_append, show (9 : Int) = ((9 : Nat) : Int) from rfl, cut_take, List.append_assoc]
  rfl
theorem digs_inj : (List.range 30).all (fun k => (List.range 30).all fun j => decide ((toString (k : Int) : Str).cps.toList = (toString (j : Int) : Str).cps.toList → k = j)) = true := by decide +kernel
theorem spare_inj {z : Str} {k j : Nat} (hk : k < 30) (hj : j < 30) (h : spare z k = spare z j) : k = j := by
  have e : (spare z k).cps.toList = (spare z j).cps.toList := by rw [h]
  rw [spare_cps, spare_cps] at e
  have e2 := List.append_cancel_left (List.append_cancel_left e)
  have d := List.all_eq_true.mp (List.all_eq_true.mp digs_inj k (List.mem_range.mpr hk)) j (List.mem_range.mpr hj)
  exact of_decide_eq_true d e2
theorem nodup_sub {α : Type} [DecidableEq α] : ∀ {l m : List α}, l.Nodup → (∀ x ∈ l, x ∈ m) → l.length ≤ m.length
  | [], _, _, _ => Nat.zero_le _
  | a :: l, m, hn, hs => by
    obtain ⟨ha, hn⟩ := List.nodup_cons.mp hn
    have h1 : a ∈ m := hs a (List.mem_cons_self ..)
    have h2 : l.length ≤ (m.erase a).length := nodup_sub hn fun x hx => by
      have ne : x ≠ a := fun e => ha (e ▸ hx)
      exact (List.mem_erase_of_ne ne).mpr (hs x (List.mem_cons_of_mem _ hx))
    rw [List.length_erase_of_mem h1] at h2
    have : 0 < m.length := List.length_pos_of_mem h1
    rw [List.length_cons]
    omega
/-- the first name at fault: true: not known; false: it occurred before -/
def chk (ks : List Str) : List Str → List Str → Option (Bool × Str)
  | _, [] => none
  | seen, n :: r => if n ∈ ks then (if n ∈ seen then some (false, n) else chk ks (seen ++ [n]) r) else some (true, n)
theorem chk_cons (ks seen : List Str) (n : Str) (r : List Str) : chk ks seen (n :: r) = if n ∈ ks then (if n ∈ seen then some (false, n) else chk ks (seen ++ [n]) r) else some (true, n) := rfl
theorem chk_none {ks : List Str} : ∀ {ws seen : List Str}, chk ks seen ws = none ↔ ws.Nodup ∧ (∀ w ∈ ws, w ∈ ks ∧ w ∉ seen)
  | [], seen => by simp [chk]
  | n :: r, seen => by
    rw [chk_cons]
    by_cases h1 : n ∈ ks
    · rw [if_pos h1]
      by_cases h2 : n ∈ seen
      · rw [if_pos h2]
        constructor
        · intro h; cases h
        · intro h; exact absurd h2 (h.2 n (List.mem_cons_self ..)).2
      · rw [if_neg h2, chk_none, List.nodup_cons]
        constructor
        · rintro ⟨a, b⟩
          refine ⟨⟨fun hn => ?_, a⟩, fun w hw => ?_⟩
          · exact (b n hn).2 (List.mem_append_right _ (List.mem_singleton.mpr rfl))
          · rcases List.mem_cons.mp hw with rfl | hw
            · exact ⟨h1, h2⟩
            · exact ⟨(b w hw).1, fun h => (b w hw).2 (List.mem_append_left _ h)⟩
        · rintro ⟨⟨a, b⟩, c⟩
          refine ⟨b, fun w hw => ⟨(c w (List.mem_cons_of_mem _ hw)).1, fun h => ?_⟩⟩
          rcases List.mem_append.mp h with h | h
          · exact (c w (List.mem_cons_of_mem _ hw)).2 h
          · rw [List.mem_singleton.mp h] at hw
            exact a hw
    · rw [if_neg h1]
      constructor
      · intro h; cases h
      · intro h; exact absurd (h.2 n (List.mem_cons_self ..)).1 h1
theorem chk_mem {ks : List Str} {b : Bool} {n : Str} : ∀ {ws seen : List Str}, chk ks seen ws = some (b, n) → n ∈ ws
  | [], _, h => by cases h
  | m :: r, seen, h => by
    rw [chk_cons] at h
    by_cases h1 : m ∈ ks
    · rw [if_pos h1] at h
      by_cases h2 : m ∈ seen
      · rw [if_pos h2] at h
        cases h
        exact List.mem_cons_self ..
      · rw [if_neg h2] at h
        exact List.mem_cons_of_mem _ (chk_mem h)
    · rw [if_neg h1] at h
      cases h
      exact List.mem_cons_self ..
section
variable {P : Program} {K : PySem.W.Frag} {h : Heap} {mg : Str → Option Value}
theorem src_mk {x : Str} {st : Stmt} {ps : List Str} {f : Addr} {oc : Value} {od an : Option Addr} {osl : Array (Option Value)} {kV doc pm cdv ct : Value} (X : K.In h) (G : h.Ns mainGlobals mg)
    (a : PySem.W.nsIn K mainGlobals x = some (some (.ref f))) (l : K.lookup f = some ⟨oc, od, .func (PySem.W.fnOf x x (defArgs st) (defBody st) (defScope st) .none kV doc pm an cdv ct), osl⟩)
    (c : PySem.W.codeIn K cdv x = true) (k : PySem.W.keepIn K (.ref f) = true)
    (hb : ∀ (kV doc pm : Value) (an : Option Addr) (cdv ct : Value) (us : List Value), us.length = ps.length → bindArgs (PySem.W.fnOf x x (defArgs st) (defBody st) (defScope st) .none kV doc pm an cdv ct) ⟨us, []⟩ = pure (ps.zip us)) : Src K mg x st ps :=
  ⟨f, _, PySem_Fun_a (fun_mk l c k), PySem.W.mg_of X G a, (fun_mk (st := st) l c k).binds hb⟩
theorem glo_str {x z : Str} {t : Tok} (X : K.In h) (G : h.Ns mainGlobals mg) (a : PySem.W.nsIn K mainGlobals x = some (some (.str z t))) : Glo mg x (.str z) := ⟨_, PySem.W.mg_of X G a, t, rfl⟩
theorem glo_int {x : Str} {i : Int} {t : Tok} (X : K.In h) (G : h.Ns mainGlobals mg) (a : PySem.W.nsIn K mainGlobals x = some (some (.int i t))) : Glo mg x (.int i) := ⟨_, PySem.W.mg_of X G a, t, rfl⟩
theorem glo_ref {x : Str} {a : Addr} (X : K.In h) (G : h.Ns mainGlobals mg) (e : PySem.W.nsIn K mainGlobals x = some (some (.ref a))) : Glo mg x (.ref a) := ⟨_, PySem.W.mg_of X G e, rfl⟩
theorem err_mk {cn qual : Str} {tm : Bool} {C fI : Addr} {fs : List Str} {st : Stmt} {nm q : Str} {N : Addr} {bs bm : List Value} {sn : List Str} {sub : List Value} {ab : Bool} {col : Option Bool} {dd : Option Addr} {m0 m1 m2 m3 m5 : Option Value}
    {oc : Value} {od an : Option Addr} {osl : Array (Option Value)} {kV doc pm ct : Value} {cda cc : Addr} {ccl cl : Value} {cdd cld : Option Addr} {ccs csl : Array (Option Value)} {vs : Array Value} {file : Str} {tf : Tok} {msg : Expr} {p1 p2 p3 p4 p5 : Pos} {fp : List FP} {ar : Arg}
    (X : K.In h) (G : h.Ns mainGlobals mg) (aC : PySem.W.nsIn K mainGlobals cn = some (some (.ref C))) (aS : PySem.W.nsIn K mainGlobals "super" = some none)
    (xL : K.lookup C = some (excClassObj nm q C N bs bm true sn sub ab col dd m0 m1 m2 m3 m5 "ValueError.__new__")) (hbm : PySem.HandSPX.refsVE bm = true)
    (sa : PySem.W.findIn K (.ref C) "__setattr__" = some (some (.builtin "object.__setattr__"))) (ga : PySem.W.findIn K (.ref C) "__getattribute__" = some (some (.builtin "BaseException.__getattribute__"))) (gg : PySem.W.findIn K (.ref C) "__getattr__" = some none)
    (noN : ∀ f ∈ fs, PySem.W.findIn K (.ref C) f = some none)
    (iC : PySem.W.findIn K (.ref C) "__init__" = some (some (.ref fI))) (tI : PySem.W.typeIn K (.ref fI) = some (.type "function")) (kC : PySem.W.keepIn K (.ref C) = true)
    (exC : PySem.W.subIn K (.ref C) (.type "BaseException") = some true) (veC : PySem.W.subIn K (.ref C) (.type "ValueError") = some true) (tyC : PySem.W.typeIn K (.ref C) = some (.type "type")) (hdC : PySem.W.hasDictIn K C = true)
    (sup : PySem.W.ks_superIn K C C "__init__" = some (some (.builtin "ValueError.__init__"))) (mro : PySem.W.mroIn K C (.ref C) = some true) (su : PySem.W.subIn K (.ref C) (.ref C) = some true)
    (ca : PySem.W.findIn K (.ref C) "__class__" = some (some (.builtin "object.__class__"))) (cg : PySem.W.specialIn K (.builtin "object.__class__") "__get__" = some (some (.builtin "getset_descriptor.__get__"))) (ct' : PySem.W.takesIn K (.builtin "object.__class__") = some true)
    (mo : PySem.W.mroIn K C (.type "object") = some true) (opq : PySem.W.nsIn K cStatics "thirdparty.any" = some none)
    (top : (P.main.scope.names.lookup ("super" : Str)).isSome = false)
    (l : K.lookup fI = some ⟨oc, od, .func (PySem.W.ksFn "__init__" qual (defArgs st) (defBody st) (defScope st) .none kV doc pm an (.ref cda) ct cc), osl⟩) (c : PySem.W.codeIn K (.ref cda) qual = true)
    (lc : K.lookup cda = some ⟨ccl, cdd, .fields vs, ccs⟩) (hv2 : vs[2]? = some (.str file tf)) (hfile : ((P.main.file : Str) == file) = true) (lcc : K.lookup cc = some ⟨cl, cld, .cell (some (.ref C)), csl⟩)
    (hbody : defBody st = stS msg p1 p2 p3 p4 p5 :: fp.map stF) (har : ((defArgs st).posonlyargs ++ (defArgs st).args).head? = some ar) (hself : ar.arg = "self") (hfp : fp.map (·.1) = fs) (hpos : (p3.endLine == p4.line) = true)
    (h1 : (defScope st).names.lookup ("super" : Str) = some .globalImplicit) (h2 : (defScope st).names.lookup ("__class__" : Str) = some .free) (h3 : (defScope st).names.lookup ("self" : Str) = some .local) (h4 : ∀ f ∈ fs, (defScope st).names.lookup f = some .local) (h5 : ∀ f ∈ fs, (f == ("__debug__" : Str)) = false) (h6 : ∀ y ∈ (defScope st).names, y.2 ≠ .cell)
    (h7 : (defScope st).kind = .function) (h8 : (defScope st).isGenerator = false) (h9 : (defScope st).isCoroutine = false)
    (hbind : ∀ (kV doc pm : Value) (an : Option Addr) (cda : Addr) (ct : Value) (cc : Addr) (s : Shared) (x : Value) (us : List Value), us.length = fs.length → BindsTo s (PySem.W.ksFn "__init__" qual (defArgs st) (defBody st) (defScope st) .none kV doc pm an (.ref cda) ct cc) ⟨x :: us, []⟩ (("self", x) :: fs.zip us))
    (hlook : ∀ (x : Value) (us : List Value), us.length = fs.length → ((("self" : Str), x) :: fs.zip us).reverse.lookup ("self" : Str) = some x ∧ Paired (fun f u => ((("self" : Str), x) :: fs.zip us).reverse.lookup f = some u) fs us)
    (hmsg : (tm = false ∧ ∃ (z : Str) (i : Nat) (p : Pos), msg = .Constant (.str z) i p) ∨ tm = true ∧ ∃ (z f : Str) (i : Nat) (p p' p'' : Pos), msg = .BinOp (.Constant (.str z) i p) .Add (.Name f p') p'' ∧ z.length ≤ 100 ∧ fs.head? = some f) :
    ErrTxt P K mg tm cn C fI fs where
  cls := ⟨nm, q, N, bs, bm, sn, sub, ab, col, dd, m0, m1, m2, m3, m5, xL, hbm⟩
  sa := sa
  noN := noN
  gC := PySem.W.mg_of X G aC
  ga := ga
  gg := gg
  iC := iC
  tC := tI
  kC := kC
  exC := exC
  veC := veC
  tyC := tyC
  hdC := hdC
  sup := sup
  mro := mro
  sub := su
  ca := ca
  cg := cg
  ct := ct'
  mo := mo
  opq := opq
  msup := PySem.W.mg_none_of X G aS
  top := top
  fn := by
    rw [hbody] at l
    refine ⟨oc, od, qual, defArgs st, defScope st, msg, p1, p2, p3, p4, p5, fp, .none, kV, doc, pm, an, cda, cc, ct, osl, ar, ccl, cl, cdd, cld, ccs, csl, vs, file, tf, l, c, har, hself, lc, hv2, hfile, lcc, hfp, hpos, ⟨h1, h2, h3, h4, h5, h6⟩, ⟨h7, h8, h9⟩, ?_, hlook, hmsg⟩
    intro s x us hl
    have := hbind kV doc pm an cda ct cc s x us hl
    rw [hbody] at this
    exact this
end
end L2
set_option Elab.async false
set_option linter.all false
set_option maxRecDepth 100000
set_option maxHeartbeats 4000000
namespace L2
open PySem PySem.Spec PyProof.Rows PySem.HErr
/-- a method of the text stands in its class -/
structure SrcM (K : PySem.W.Frag) (C : Addr) (m qual : Str) (st : Stmt) (ps : List Str) : Prop where
  ex : ∃ f fd, FunA K m qual st f fd ∧ Meth K C m f ∧ Binds K fd ps []
/-- the method m of the class at C keeps the promise sp -/
structure DefM (P : Program) (w : World) (K : PySem.W.Frag) (mg : Str → Option Value) (base : Heap) (CX : CXT) (k : Nat) (C : Addr) (m : Str) (ps : List Str) (sp : Sp) : Prop where
  ex : ∃ f fd, LkF K f fd ∧ Meth K C m f ∧ Binds K fd ps [] ∧ FnOk P w K mg base CX k f fd ps sp
/-- __init__ of the class at C stands in it; ds: the values of defaults that are left out -/
structure SrcI (K : PySem.W.Frag) (C : Addr) (qual : Str) (st : Stmt) (ps : List Str) : Prop where
  ex : ∃ f fd, FunA K "__init__" qual st f fd ∧ Mk K C f ∧ Binds K fd ps []
structure DefI (P : Program) (w : World) (K : PySem.W.Frag) (mg : Str → Option Value) (base : Heap) (CX : CXT) (k : Nat) (C : Addr) (ps : List Str) (sp : Sp) : Prop where
  ex : ∃ f fd, LkF K f fd ∧ Mk K C f ∧ Binds K fd ps [] ∧ FnOk P w K mg base CX k f fd ps sp
section
variable {P : Program} {w : World} {K : PySem.W.Frag} {mg : Str → Option Value} {base : Heap} {CX : CXT} {m qual : Str} {C : Addr} {st : Stmt} {N ps : List Str} {k : Nat} {sp : Sp}
theorem DefM.mono {j : Nat} (D : DefM P w K mg base CX j C m ps sp) (h : j ≤ k) : DefM P w K mg base CX k C m ps sp := by
  obtain ⟨f, fd, hlk, h1, h2, h3⟩ := D.ex
  exact ⟨f, fd, hlk, h1, h2, h3.mono h⟩
theorem DefI.mono {j : Nat} (D : DefI P w K mg base CX j C ps sp) (h : j ≤ k) : DefI P w K mg base CX k C ps sp := by
  obtain ⟨f, fd, hlk, h1, h2, h3⟩ := D.ex
  exact ⟨f, fd, hlk, h1, h2, h3.mono h⟩
theorem SrcM.ok (F : SrcM K C m qual st ps) (S : FnScope N ps (defScope st)) (len : ∀ vs H Q E, sp vs H Q E → vs.length = ps.length)
    (hbody : ∀ (f : Addr) (cdv : Value) (A : Around) (outer : List Env) (s : Shared) (H : Hp) (vs : List V) (Q : VK) (E : XK), Room k (A.deeper (envOfC qual (defScope st) s.heap.objs.size f cdv)) → sp vs H Q E →
      ∃ t, PSs (cxOf CX0 P w K mg base N qual (defScope st) f cdv A outer s H E).nox (defBody st) t ∧ t { nx := fun _ H' => Q .non H', rt := Q } (start N vs) H) : DefM P w K mg base CX0 (k + 1) C m ps sp := by
  obtain ⟨f, fd, h1, h2, h3⟩ := F.ex
  exact ⟨f, fd, h1.lk, h2, h3, h1.ok S len (hbody f)⟩
theorem SrcM.okX (F : SrcM K C m qual st ps) (S : FnScope N ps (defScope st)) (len : ∀ vs H Q E, sp vs H Q E → vs.length = ps.length)
    (hbody : ∀ (f : Addr) (cdv : Value) (A : Around) (outer : List Env) (s : Shared) (H : Hp) (vs : List V) (Q : VK) (E : XK), Room k (A.deeper (envOfC qual (defScope st) s.heap.objs.size f cdv)) → sp vs H Q E →
      ∃ t, PSs (cxOf (L2.CX P w) P w K mg base N qual (defScope st) f cdv A outer s H E) (defBody st) t ∧ t { nx := fun _ H' => Q .non H', rt := Q } (start N vs) H) : DefM P w K mg base (L2.CX P w) (k + 1) C m ps sp := by
  obtain ⟨f, fd, h1, h2, h3⟩ := F.ex
  exact ⟨f, fd, h1.lk, h2, h3, h1.okX S len (hbody f)⟩
theorem SrcI.okX (F : SrcI K C qual st ps) (S : FnScope N ps (defScope st)) (len : ∀ vs H Q E, sp vs H Q E → vs.length = ps.length)
    (hbody : ∀ (f : Addr) (cdv : Value) (A : Around) (outer : List Env) (s : Shared) (H : Hp) (vs : List V) (Q : VK) (E : XK), Room k (A.deeper (envOfC qual (defScope st) s.heap.objs.size f cdv)) → sp vs H Q E →
      ∃ t, PSs (cxOf (L2.CX P w) P w K mg base N qual (defScope st) f cdv A outer s H E) (defBody st) t ∧ t { nx := fun _ H' => Q .non H', rt := Q } (start N vs) H) : DefI P w K mg base (L2.CX P w) (k + 1) C ps sp := by
  obtain ⟨f, fd, h1, h2, h3⟩ := F.ex
  exact ⟨f, fd, h1.lk, h2, h3, h1.okX S len (hbody f)⟩
theorem SrcI.ok (F : SrcI K C qual st ps) (S : FnScope N ps (defScope st)) (len : ∀ vs H Q E, sp vs H Q E → vs.length = ps.length)
    (hbody : ∀ (f : Addr) (cdv : Value) (A : Around) (outer : List Env) (s : Shared) (H : Hp) (vs : List V) (Q : VK) (E : XK), Room k (A.deeper (envOfC qual (defScope st) s.heap.objs.size f cdv)) → sp vs H Q E →
      ∃ t, PSs (cxOf CX0 P w K mg base N qual (defScope st) f cdv A outer s H E).nox (defBody st) t ∧ t { nx := fun _ H' => Q .non H', rt := Q } (start N vs) H) : DefI P w K mg base CX0 (k + 1) C ps sp := by
  obtain ⟨f, fd, h1, h2, h3⟩ := F.ex
  exact ⟨f, fd, h1.lk, h2, h3, h1.ok S len (hbody f)⟩
end
theorem passAt0 {X : Cx} (σ : St) : PassesAt CX0 X σ E0 := fun _ _ _ _ _ _ h => h.elim
theorem Passes.at {CX : CXT} {X : Cx} {E : XK} (h : Passes CX X E) (σ : St) : PassesAt CX X σ E := fun pins H s e s' I c => h pins σ H s e s' I c
/-- o.m(..) -/
def tMetD (C : Addr) (m : Str) (sp : Sp) (E : St → XK) (ta : TE) (t : TA) : TE := fun σ H Q => ta σ H fun x H1 => ∃ a dx fs, x = .ref a ∧ H1 a = some (.ins C dx fs) ∧ fs.lookup m = none ∧ t σ H1 fun vs H2 => sp (x :: vs) H2 Q (E σ)
/-- C(..) -/
def tMkD (C : Addr) (sp : Sp) (E : St → XK) (t : TA) : TE := fun σ H Q => t σ H fun vs H1 => ∀ x dx, H1 x = none → H1 dx = none → dx ≠ x →
  sp (.ref x :: vs) (upd (upd H1 dx (.own x)) x (.ins C dx [])) (fun v H2 => v = .non ∧ Q (.ref x) H2) (E σ)
section
variable {X : Cx} {CX : CXT} {k : Nat} {C : Addr} {ps : List Str} {sp : Sp} {E : St → XK} {x m : Str} {p pos apos : Pos} {e o : Expr} {es : List Expr} {ta : TE} {t : TA}
theorem pe_metD {pl : Sem Bool} (D : DefM X.prog X.w X.K X.mg X.base CX k C m ps sp) (c : Cls X.K C) (hr : Room k X.A) (hx : ∀ σ, PassesAt CX X σ (E σ)) (he : PE X o ta) (ha : PA X (e :: es) t)
    (hst : starEach (e :: es) X.env = (false, eval e X.env) :: starEach es X.env := by rfl) (hpl : (backTo pos (starEach es X.env)).any (·.1) = false := by rfl)
    (ht : eval (.Call (.Attribute o m apos) (e :: es) [] pos) X.env = (do
      let ov ← eval o X.env
      standAt apos.atName
      let (f, first) ← holding [ov] (getMethod ov m pl)
      callWith pos f first (backTo pos (starEach (e :: es) X.env)) (backToKw pos (keywordEach [] X.env))) := by rfl) :
    PE X (.Call (.Attribute o m apos) (e :: es) [] pos) (tMetD C m sp E ta t) := by
  obtain ⟨f, fd, hlk, hm, hb, F⟩ := D.ex
  refine ⟨fun pins s σ H Q I h => ?_⟩
  refine PySem.W.methodCall_KW (pl := pl) (thn (he.run pins s σ H _ I h) fun u s1 ⟨x, H1, I1, rx, a, dx, fs, ex, ea, l, q⟩ => ?_) ht
  subst ex
  obtain rfl : u = Value.ref a := rx
  refine getmeth_ok I1 ea c hm l ?_
  refine PySem.W.callWith_K (first := [.ref a]) (h₀ := X.base) I.ok.mod.kin hm.kp (thn (ha.run pos pins s1 σ H1 _ I1 q) fun us s2 ⟨vs, H2, I2, r, q2⟩ => ⟨I2.kIn, ?_⟩) hst hpl
  exact run_fnS (us := .ref a :: us) (vs := .ref a :: vs) F hr hb (hx σ) I2 (.cons rfl r) q2
theorem pe_metD0 {pl : Sem Bool} (D : DefM X.prog X.w X.K X.mg X.base CX k C m ps sp) (c : Cls X.K C) (hr : Room k X.A) (hx : ∀ σ, PassesAt CX X σ (E σ)) (he : PE X o ta)
    (ht : eval (.Call (.Attribute o m apos) [] [] pos) X.env = (do
      let ov ← eval o X.env
      standAt apos.atName
      let (f, first) ← holding [ov] (getMethod ov m pl)
      callWith pos f first (backTo pos (starEach [] X.env)) (backToKw pos (keywordEach [] X.env))) := by rfl) :
    PE X (.Call (.Attribute o m apos) [] [] pos) (tMetD C m sp E ta tNil) := by
  obtain ⟨f, fd, hlk, hm, hb, F⟩ := D.ex
  refine ⟨fun pins s σ H Q I h => ?_⟩
  refine PySem.W.methodCall_KW (pl := pl) (thn (he.run pins s σ H _ I h) fun u s1 ⟨x, H1, I1, rx, a, dx, fs, ex, ea, l, q⟩ => ?_) ht
  subst ex
  obtain rfl : u = Value.ref a := rx
  refine getmeth_ok I1 ea c hm l ?_
  exact PySem.W.callWith_K0 (first := [.ref a]) I1.kIn hm.kp (run_fnS (us := [.ref a]) (vs := [.ref a]) F hr hb (hx σ) I1 (.cons rfl .nil) q)
theorem pe_mkD (D : DefI X.prog X.w X.K X.mg X.base CX k C ps sp) (hm : X.mg x = some (.ref C)) (hr : Room (k + 1) X.A) (hx : ∀ σ, PassesAt CX X σ (E σ)) (ha : PA X (e :: es) t) (hg : Gl X x := by rfl)
    (hdb : (x == ("__debug__" : Str)) = false := by decide) (he : starEach (e :: es) X.env = (false, eval e X.env) :: starEach es X.env := by rfl) (hpl : (backTo pos (starEach es X.env)).any (·.1) = false := by rfl) :
    PE X (.Call (.Name x p) (e :: es) [] pos) (tMkD C sp E t) := by
  obtain ⟨f, fd, hlk, M, hb, F⟩ := D.ex
  refine ⟨fun pins s0 σ H0 Q I0 h0 => ?_⟩
  refine wpAny_Call_Name_kw (ld_glob I0 hg hm ?_ hdb)
  refine PySem.W.callWith_K (h₀ := X.base) I0.ok.mod.kin M.kp (thn (ha.run pos pins s0 σ H0 _ I0 h0) fun us s ⟨vs, H, I, r, h⟩ => ⟨I.kIn, ?_⟩) he hpl
  show wpAny _ _ (call (.ref C) us) _ _ _
  have hq := h (s.heap.objs.size + 1) s.heap.objs.size (I.hok.fresh (Nat.le_succ _)) (I.hok.fresh (Nat.le_refl _)) (Nat.ne_of_lt (Nat.lt_succ_self _))
  have I2 := Inv.made (C := C) I
  have r2 : Vals (V.ref (s.heap.objs.size + 1) :: vs) (Value.ref (s.heap.objs.size + 1) :: us) := .cons rfl r
  have hl : ((Value.ref (s.heap.objs.size + 1) :: us) ++ []).length = ps.length := by
    have e := r2.length
    rw [F.len _ _ _ _ hq] at e
    rw [List.append_nil]
    exact e.symm
  have hbb := hb _ (Value.ref (s.heap.objs.size + 1) :: us) I2.kIn hl
  rw [List.append_nil] at hbb
  refine wpAny_call (make_map (f := f) I.kIn M.makes M.init (beq_iff_eq.mp M.fn) (codeAny_mono (F.run _ X.stack _ _ ⟨Value.ref (s.heap.objs.size + 1) :: us, []⟩ (Value.ref (s.heap.objs.size + 1) :: us) _ _ (E σ) (hr.make C us [])
    (I2.env0.make C us []) hbb r2 hq) fun r s' hq' => ?_))
  cases r with
  | error e => exact hx σ pins _ _ e s' I2 hq'
  | ok fl =>
    cases fl with
    | ret u =>
      obtain ⟨v, H', I3, rv, ev, q3⟩ := I2.after hq'
      subst ev
      exact ⟨rv, ⟨V.ref (s.heap.objs.size + 1), H', I3, rfl, q3⟩⟩
    | next => exact False.elim hq'
    | brk => exact False.elim hq'
    | cont => exact False.elim hq'
theorem kps_fld {K : PySem.W.Frag} {f : Str} {value : Expr} {pos' : Pos} {tv : TE} (ha : PE X o ta) (hv : PE X value tv) (hs : swapsWith value (some (.Attribute o f pos')) pos.line X.env = pure false := by rfl) (hK : X.K = K := by rfl) :
    PS X (.Assign [.Attribute o f pos'] value pos) (sFld K ta tv f) := hK ▸ ps_fld ha hv hs
theorem srcM_mk {K : PySem.W.Frag} {qual : Str} {st : Stmt} {f : Addr} {oc : Value} {od an : Option Addr} {osl : Array (Option Value)} {kV doc pm cdv ct : Value}
    (a : PySem.W.findIn K (.ref C) m = some (some (.ref f))) (i : PySem.W.isFn K (.ref f) = true) (l : K.lookup f = some ⟨oc, od, .func (PySem.W.fnOf m qual (defArgs st) (defBody st) (defScope st) .none kV doc pm an cdv ct), osl⟩)
    (c : PySem.W.codeIn K cdv qual = true) (k : PySem.W.keepIn K (.ref f) = true)
    (hb : ∀ (kV doc pm : Value) (an : Option Addr) (cdv ct : Value) (us : List Value), us.length = ps.length → bindArgs (PySem.W.fnOf m qual (defArgs st) (defBody st) (defScope st) .none kV doc pm an cdv ct) ⟨us, []⟩ = pure (ps.zip us)) : SrcM K C m qual st ps :=
  ⟨f, _, PySem_Fun_a (fun_mk l c k), ⟨a, i, k⟩, (fun_mk (st := st) l c k).binds hb⟩
theorem srcI_mk {K : PySem.W.Frag} {qual : Str} {st : Stmt} {f : Addr} {oc : Value} {od an : Option Addr} {osl : Array (Option Value)} {kV doc pm cdv ct : Value}
    (mk : PySem.W.makesIn K C = true) (kc : PySem.W.keepIn K (.ref C) = true)
    (a : PySem.W.findIn K (.ref C) "__init__" = some (some (.ref f))) (i : PySem.W.isFn K (.ref f) = true) (l : K.lookup f = some ⟨oc, od, .func (PySem.W.fnOf "__init__" qual (defArgs st) (defBody st) (defScope st) .none kV doc pm an cdv ct), osl⟩)
    (c : PySem.W.codeIn K cdv qual = true) (k : PySem.W.keepIn K (.ref f) = true)
    (hb : ∀ (kV doc pm : Value) (an : Option Addr) (cdv ct : Value) (us : List Value), us.length = ps.length → bindArgs (PySem.W.fnOf "__init__" qual (defArgs st) (defBody st) (defScope st) .none kV doc pm an cdv ct) ⟨us, []⟩ = pure (ps.zip us)) : SrcI K C qual st ps :=
  ⟨f, _, PySem_Fun_a (fun_mk l c k), ⟨mk, a, i, kc⟩, (fun_mk (st := st) l c k).binds hb⟩
end
end L2
set_option Elab.async false
set_option linter.all false
set_option maxRecDepth 100000
set_option maxHeartbeats 4000000
namespace L2
open PySem PySem.Spec PyProof.Rows PySem.HErr
/-- an error of a plan -/
inductive PErr where
  | tooMany (kind : Str) (limit : Int)
  | badWord (w : Str)
  | double (n : Str)
  | badNumber (n : Int)
  | empty (n : Str)
  | unknown (n : Str)
def nameErr : Bool × Str → PErr
  | (true, n) => .unknown n
  | (false, n) => .double n
def placesDue : List Str → List (Str × Int) → Option PErr
  | _, [] => none
  | seen, (w, n) :: r => if wd w.cps.toList = true then (if w ∈ seen then some (.double w) else if 0 ≤ n ∧ n ≤ 99 then placesDue (seen ++ [w]) r else some (.badNumber n)) else some (.badWord w)
abbrev SRow := Str × List Str × List Str
def stepDue (places seen : List Str) (s : SRow) : Option PErr :=
  if wd s.1.cps.toList = true then (if s.1 ∈ seen then some (.double s.1) else if s.2.1 = [] then some (.empty s.1) else
    match chk places [] s.2.1 with
    | some x => some (nameErr x)
    | none => (chk places [] s.2.2).map nameErr) else some (.badWord s.1)
def stepsDue (places : List Str) : List Str → List SRow → Option PErr
  | _, [] => none
  | seen, s :: r => match stepDue places seen s with
    | some e => some e
    | none => stepsDue places (seen ++ [s.1]) r
def planDue (prs : List (Str × Int)) (srs : List SRow) : Option PErr :=
  if 12 < prs.length then some (.tooMany "places" 12) else if 16 < srs.length then some (.tooMany "steps" 16) else
    match placesDue [] prs with
    | some e => some e
    | none => stepsDue (prs.map (·.1)) [] srs
theorem placesDue_cons (seen : List Str) (w : Str) (n : Int) (r : List (Str × Int)) : placesDue seen ((w, n) :: r) = if wd w.cps.toList = true then (if w ∈ seen then some (.double w) else if 0 ≤ n ∧ n ≤ 99 then placesDue (seen ++ [w]) r else some (.badNumber n)) else some (.badWord w) := rfl
theorem stepsDue_cons (places seen : List Str) (s : SRow) (r : List SRow) : stepsDue places seen (s :: r) = match stepDue places seen s with
    | some e => some e
    | none => stepsDue places (seen ++ [s.1]) r := rfl
/-- names in the order of the places -/
def inOrd (places ns : List Str) : List Str := places.filter fun p => decide (p ∈ ns)
/-- a plan -/
structure PlanD where
  places : List Str
  begin : List Int
  steps : List SRow
def planOf (prs : List (Str × Int)) (srs : List SRow) : PlanD := ⟨prs.map (·.1), prs.map (·.2), srs.map fun s => (s.1, inOrd (prs.map (·.1)) s.2.1, inOrd (prs.map (·.1)) s.2.2)⟩
def PlanD.names (d : PlanD) : List Str := d.steps.map (·.1)
/-- a dict from words to tuples of words -/
def TabAt (H : Hp) (kvs : List (Key × V)) (rows : List (Str × List Str)) : Prop := Paired (fun (kv : Key × V) r => kv.1 = Sum.inr r.1 ∧ ∃ t, kv.2 = .ref t ∧ H t = some (.tup (r.2.map V.str))) kvs rows
/-- a tuple whose place is known to be bare -/
def TupK (F : Hp) (a : Addr) (vs : List V) : Prop := ∃ o, F a = some (.frz o (.tup vs)) ∧ o.cls = .type "tuple" ∧ o.dict = none
theorem TupK.mono {F F' : Hp} {a : Addr} {vs : List V} (e : Same F F') (h : TupK F a vs) : TupK F' a vs := let ⟨o, h, q⟩ := h; ⟨o, e _ _ h, q⟩
def TupX (n : Bool) (F : Hp) (a : Addr) (vs : List V) : Prop := (n = true ∧ F a = some (.tup vs)) ∨ (n = false ∧ TupK F a vs)
theorem TupX.mono {n : Bool} {F F' : Hp} {a : Addr} {vs : List V} (e : Same F F') (h : TupX n F a vs) : TupX n F' a vs := h.imp (fun ⟨h0, h⟩ => ⟨h0, e _ _ h⟩) fun ⟨h0, h⟩ => ⟨h0, h.mono e⟩
def TupB (n : Bool) (F : Hp) (a : Addr) (vs : List V) : Prop := F a = some (.tup vs) ∨ (n = false ∧ TupK F a vs)
theorem TupB.mono {n : Bool} {F F' : Hp} {a : Addr} {vs : List V} (e : Same F F') (h : TupB n F a vs) : TupB n F' a vs := h.imp (fun h => e _ _ h) fun ⟨h0, o, h, q⟩ => ⟨h0, o, e _ _ h, q⟩
/-- the plan d stands at x -/
structure PlanAt (H : Hp) (C x : Addr) (d : PlanD) : Prop where
  ex : ∃ (dx tp tb td tg ts : Addr) (kt kg : List (Key × V)), H x = some (.ins C dx [("places", .ref tp), ("begin", .ref tb), ("taken", .ref td), ("given", .ref tg), ("steps", .ref ts)]) ∧
    TupX d.places.isEmpty H tp (d.places.map V.str) ∧ H tb = some (.tup (d.begin.map V.int)) ∧ H td = some (.dK kt) ∧ H tg = some (.dK kg) ∧ TupB d.names.isEmpty H ts (d.names.map V.str) ∧
    TabAt H kt (d.steps.map fun s => (s.1, s.2.1)) ∧ TabAt H kg (d.steps.map fun s => (s.1, s.2.2))
theorem Paired.imp2 {α β : Type} {R S : α → β → Prop} (h : ∀ a b, R a b → S a b) : ∀ {l : List α} {m : List β}, Paired R l m → Paired S l m
  | _, _, .nil => .nil
  | _, _, .cons x y => .cons (h _ _ x) (Paired.imp2 h y)
theorem TabAt.keep {H H' : Hp} {kvs : List (Key × V)} {rows : List (Str × List Str)} (h : TabAt H kvs rows) (e : ∀ t l, H t = some (.tup l) → H' t = some (.tup l)) : TabAt H' kvs rows :=
  Paired.imp2 (fun _ _ ⟨h1, t, h2, h3⟩ => ⟨h1, t, h2, e t _ h3⟩) h
theorem PlanAt.keep {H H' : Hp} {C x : Addr} {d : PlanD} (h : PlanAt H C x d) (e : Same H H') : PlanAt H' C x d := by
  obtain ⟨dx, tp, tb, td, tg, ts, kt, kg, h1, h2, h3, h4, h5, h6, h7, h8⟩ := h.ex
  exact ⟨dx, tp, tb, td, tg, ts, kt, kg, e _ _ h1, h2.mono e, e _ _ h3, e _ _ h4, e _ _ h5, h6.mono e, h7.keep fun _ _ => e _ _, h8.keep fun _ _ => e _ _⟩
/-- rows of places, rows of steps, in the heap -/
def PRows (H : Hp) (a : Addr) (prs : List (Str × Int)) : Prop := ∃ ts : List Addr, H a = some (.lst (ts.map V.ref)) ∧ Paired (fun t (r : Str × Int) => H t = some (.tup [.str r.1, .int r.2])) ts prs
/-- a row of a step at t, its lists other than the one at a -/
def SRowIn (H : Hp) (a t : Addr) (r : SRow) : Prop := ∃ b c, H t = some (.tup [.str r.1, .ref b, .ref c]) ∧ H b = some (.lst (r.2.1.map V.str)) ∧ H c = some (.lst (r.2.2.map V.str)) ∧ b ≠ a ∧ c ≠ a
def SRows (H : Hp) (a : Addr) (srs : List SRow) : Prop := ∃ ts : List Addr, H a = some (.lst (ts.map V.ref)) ∧ Paired (SRowIn H a) ts srs
theorem PRows.keep {H H' : Hp} {a : Addr} {prs : List (Str × Int)} (h : PRows H a prs) (e : Same H H') : PRows H' a prs := by
  obtain ⟨ts, h1, h2⟩ := h
  exact ⟨ts, e _ _ h1, Paired.imp2 (fun _ _ h => e _ _ h) h2⟩
theorem SRows.keep {H H' : Hp} {a : Addr} {srs : List SRow} (h : SRows H a srs) (e : Same H H') : SRows H' a srs := by
  obtain ⟨ts, h1, h2⟩ := h
  exact ⟨ts, e _ _ h1, Paired.imp2 (fun _ _ ⟨b, c, x, y, z, u⟩ => ⟨b, c, e _ _ x, e _ _ y, e _ _ z, u⟩) h2⟩
theorem Paired.get {α β : Type} {R : α → β → Prop} : ∀ {l : List α} {m : List β} {i : Nat} {a : α}, Paired R l m → l[i]? = some a → ∃ b, m[i]? = some b ∧ R a b
  | _, _, _, _, .nil, h => by simp at h
  | _, _, 0, _, .cons x _, h => by cases h; exact ⟨_, rfl, x⟩
  | _, _, i + 1, _, .cons _ y, h => Paired.get (i := i) y h
theorem Paired.len {α β : Type} {R : α → β → Prop} : ∀ {l : List α} {m : List β}, Paired R l m → l.length = m.length
  | _, _, .nil => rfl
  | _, _, .cons _ y => by rw [List.length_cons, List.length_cons, Paired.len y]
theorem Paired.snoc {α β : Type} {R : α → β → Prop} {a : α} {b : β} (h : R a b) : ∀ {l : List α} {m : List β}, Paired R l m → Paired R (l ++ [a]) (m ++ [b])
  | _, _, .nil => .cons h .nil
  | _, _, .cons x y => .cons x (Paired.snoc h y)
/-- the classes of the errors of a plan -/
structure ECs where
  tooMany : Addr
  badWord : Addr
  double : Addr
  badNumber : Addr
  empty : Addr
  unknown : Addr
def PErr.cls (cs : ECs) : PErr → Addr
  | .tooMany _ _ => cs.tooMany
  | .badWord _ => cs.badWord
  | .double _ => cs.double
  | .badNumber _ => cs.badNumber
  | .empty _ => cs.empty
  | .unknown _ => cs.unknown
def PErr.fields : PErr → List (Str × V)
  | .tooMany k l => [("limit", .int l), ("kind", .str k)]
  | .badWord w => [("word", .str w)]
  | .double n => [("name", .str n)]
  | .badNumber n => [("number", .int n)]
  | .empty n => [("name", .str n)]
  | .unknown n => [("name", .str n)]
/-- the same, but the object at x may have changed -/
def RaisX (cs : ECs) (E : XK) (x : Addr) (H : Hp) (e : PErr) : Prop := ∀ H' d, SameB x H H' → H d = none → H' d = some (.xd e.fields) → E (.ref (e.cls cs)) (some d) H'
theorem RaisX.go {cs : ECs} {E : XK} {x d : Addr} {H H' : Hp} {e : PErr} (h : RaisX cs E x H e) (sm : SameB x H H') (n : H' d = none) (hx : ∃ o, H' x = some o) : E (.ref (e.cls cs)) (some d) (upd H' d (.xd e.fields)) := by
  have hd : d ≠ x := fun q => by
    obtain ⟨o, ho⟩ := hx
    rw [q, ho] at n
    cases n
  exact h _ d (fun a o ha e => by rw [upd_ne (ne_of_none (sm a o ha e) n)]; exact sm a o ha e) (sm.free hd n) upd_same
theorem tup_ne {b l : Addr} {H : Hp} {a : Addr} {xs : List V} (hb : Box H b l) (h : H a = some (.tup xs)) : a ≠ b := fun q => by
  obtain ⟨ns, i, c, r, hb, _⟩ := hb.ex
  rw [q, hb] at h
  cases h
end L2
set_option Elab.async false
set_option linter.all false
set_option maxRecDepth 100000
set_option maxHeartbeats 4000000
namespace L2
open PySem PySem.Spec PyProof.Rows PySem.HErr
theorem Same.mut {p : Addr} {H H' : Hp} {o : HO} (h : Same H H') (n : H p = none) : Same H (upd H' p o) := fun a u e => by
  rw [upd_ne (ne_of_none e n)]
  exact h a u e
theorem Bx.tup {b l : Addr} {H H' : Hp} {a : Addr} {xs : List V} (x : Bx b l H H') (h : H a = some (.tup xs)) : H' a = some (.tup xs) := x.at h (tup_ne x.b0 h)
theorem Paired.take {α β : Type} {R : α → β → Prop} : ∀ {l : List α} {m : List β} (i : Nat), Paired R l m → Paired R (l.take i) (m.take i)
  | _, _, 0, _ => .nil
  | _, _, _ + 1, .nil => .nil
  | _, _, i + 1, .cons x y => .cons x (Paired.take i y)
theorem Paired.drop {α β : Type} {R : α → β → Prop} : ∀ {l : List α} {m : List β} (i : Nat), Paired R l m → Paired R (l.drop i) (m.drop i)
  | _, _, 0, h => h
  | _, _, _ + 1, .nil => .nil
  | _, _, i + 1, .cons _ y => Paired.drop i y
theorem Paired.app {α β : Type} {R : α → β → Prop} : ∀ {l : List α} {m : List β} {l' : List α} {m' : List β}, Paired R l m → Paired R l' m' → Paired R (l ++ l') (m ++ m')
  | _, _, _, _, .nil, h => h
  | _, _, _, _, .cons x y, h => .cons x (Paired.app y h)
theorem Paired.get' {α β : Type} {R : α → β → Prop} : ∀ {l : List α} {m : List β} {i : Nat} {b : β}, Paired R l m → m[i]? = some b → ∃ a, l[i]? = some a ∧ R a b
  | _, _, _, _, .nil, h => by simp at h
  | _, _, 0, _, .cons x _, h => by cases h; exact ⟨_, rfl, x⟩
  | _, _, i + 1, _, .cons _ y, h => Paired.get' (i := i) y h
theorem drop_at {α : Type} {l : List α} {i : Nat} {n : α} (h : l[i]? = some n) : l.drop i = n :: l.drop (i + 1) := List.drop_eq_getElem?_toList_append.trans (by rw [h]; rfl)
theorem SRowIn.keep {H H' : Hp} {a t : Addr} {r : SRow} (h : SRowIn H a t r) (e : Same H H') : SRowIn H' a t r := by
  obtain ⟨b, c, x, y, z, u⟩ := h
  exact ⟨b, c, e _ _ x, e _ _ y, e _ _ z, u⟩
theorem Paired.same {H H' : Hp} {ts : List Addr} {prs : List (Str × Int)} (h : Paired (fun t (r : Str × Int) => H t = some (.tup [.str r.1, .int r.2])) ts prs) (e : Same H H') : Paired (fun t (r : Str × Int) => H' t = some (.tup [.str r.1, .int r.2])) ts prs := Paired.imp2 (fun _ _ h => e _ _ h) h
/-- good rows: a plan of them is built -/
structure GoodRows (prs : List (Str × Int)) (srs : List SRow) : Prop where
  pw : ∀ r ∈ prs, Wd r.1 ∧ 0 ≤ r.2 ∧ r.2 ≤ 2
  pn : (prs.map (·.1)).Nodup
  sw : ∀ r ∈ srs, Wd r.1 ∧ r.2.1 ≠ [] ∧ r.2.1.Nodup ∧ (∀ y ∈ r.2.1, y ∈ prs.map (·.1)) ∧ r.2.2.Nodup ∧ (∀ y ∈ r.2.2, y ∈ prs.map (·.1))
  sn : (srs.map (·.1)).Nodup
  p1 : 1 ≤ prs.length
  p7 : prs.length ≤ 7
  s1 : 1 ≤ srs.length
  s13 : srs.length ≤ 13
theorem nodup_snoc {α : Type} {l : List α} {a : α} (h : l.Nodup) (n : a ∉ l) : (l ++ [a]).Nodup := by
  rw [List.nodup_append]
  exact ⟨h, by simp, fun x hx y hy e => by rw [List.mem_singleton.mp hy] at e; rw [e] at hx; exact n hx⟩
theorem placesDue_none : ∀ {prs : List (Str × Int)} {seen : List Str}, (∀ r ∈ prs, Wd r.1 ∧ 0 ≤ r.2 ∧ r.2 ≤ 99) → (seen ++ prs.map (·.1)).Nodup → placesDue seen prs = none
  | [], _, _, _ => rfl
  | (w, n) :: r, seen, h, hn => by
    obtain ⟨h1, h2⟩ := h _ (List.mem_cons_self ..)
    have hn2 : ((seen ++ [w]) ++ r.map (·.1)).Nodup := by
      rw [List.append_assoc]
      exact hn
    have hw : w ∉ seen := fun q => by
      rw [List.nodup_append] at hn
      exact hn.2.2 w q w (List.mem_cons_self ..) rfl
    have h1 : wd w.cps.toList = true := h1
    have h2 : 0 ≤ n ∧ n ≤ 99 := h2
    rw [placesDue_cons, if_pos h1, if_neg hw, if_pos h2]
    exact placesDue_none (fun r hr => h r (List.mem_cons_of_mem _ hr)) hn2
theorem stepsDue_none {places : List Str} : ∀ {srs : List SRow} {seen : List Str}, (∀ r ∈ srs, Wd r.1 ∧ r.2.1 ≠ [] ∧ r.2.1.Nodup ∧ (∀ y ∈ r.2.1, y ∈ places) ∧ r.2.2.Nodup ∧ (∀ y ∈ r.2.2, y ∈ places)) → (seen ++ srs.map (·.1)).Nodup → stepsDue places seen srs = none
  | [], _, _, _ => rfl
  | s :: r, seen, h, hn => by
    obtain ⟨h1, h2, h3, h4, h5, h6⟩ := h _ (List.mem_cons_self ..)
    have hn2 : ((seen ++ [s.1]) ++ r.map (·.1)).Nodup := by
      rw [List.append_assoc]
      exact hn
    have hw : s.1 ∉ seen := fun q => by
      rw [List.nodup_append] at hn
      exact hn.2.2 s.1 q s.1 (List.mem_cons_self ..) rfl
    have e1 : chk places [] s.2.1 = none := chk_none.mpr ⟨h3, fun w hw => ⟨h4 w hw, by simp⟩⟩
    have e2 : chk places [] s.2.2 = none := chk_none.mpr ⟨h5, fun w hw => ⟨h6 w hw, by simp⟩⟩
    have e : stepDue places seen s = none := by
      unfold stepDue
      have h1 : wd s.1.cps.toList = true := h1
      rw [if_pos h1, if_neg hw, if_neg h2, e1, e2]
      rfl
    rw [stepsDue_cons, e]
    exact stepsDue_none (fun r hr => h r (List.mem_cons_of_mem _ hr)) hn2
theorem planDue_none {prs : List (Str × Int)} {srs : List SRow} (hp : ∀ r ∈ prs, Wd r.1 ∧ 0 ≤ r.2 ∧ r.2 ≤ 99) (hn : (prs.map (·.1)).Nodup)
    (hs : ∀ r ∈ srs, Wd r.1 ∧ r.2.1 ≠ [] ∧ r.2.1.Nodup ∧ (∀ y ∈ r.2.1, y ∈ prs.map (·.1)) ∧ r.2.2.Nodup ∧ (∀ y ∈ r.2.2, y ∈ prs.map (·.1))) (hm : (srs.map (·.1)).Nodup) (l1 : prs.length ≤ 12) (l2 : srs.length ≤ 16) : planDue prs srs = none := by
  unfold planDue
  rw [if_neg (by omega), if_neg (by omega), placesDue_none hp (by simpa using hn)]
  exact stepsDue_none hs (by simpa using hm)
theorem GoodRows.due {prs : List (Str × Int)} {srs : List SRow} (h : GoodRows prs srs) : planDue prs srs = none :=
  planDue_none (fun r hr => by have := h.pw r hr; exact ⟨this.1, this.2.1, by omega⟩) h.pn h.sw h.sn (by have := h.p7; omega) (by have := h.s13; omega)
end L2
set_option Elab.async false
set_option linter.all false
set_option maxRecDepth 100000
set_option maxHeartbeats 4000000
namespace L2
open PySem PySem.Spec PyProof.Rows PySem.HErr
end L2
set_option Elab.async false
set_option linter.all false
set_option maxRecDepth 100000
set_option maxHeartbeats 4000000
namespace L2
open PySem PySem.Spec PyProof.Rows PySem.HErr
/-- what a value is, in the frozen heap -/
structure Vp where
  p : Hp → V → Prop
  mono : ∀ {F F' : Hp} {v : V}, Same F F' → p F v → p F' v
/-- how a thing of Lean stands for a value -/
structure Rep (α : Type) where
  p : Hp → V → α → Prop
  mono : ∀ {F F' : Hp} {v : V} {x : α}, Same F F' → p F v x → p F' v x
def iz {α : Type} (r : Rep α) (x : α) : Vp := ⟨fun F v => r.p F v x, fun e h => r.mono e h⟩
def zAt (a : Addr) : Vp := ⟨fun _ v => v = .ref a, fun _ h => h⟩
def zNon : Vp := ⟨fun _ v => v = .non, fun _ h => h⟩
def zI : Rep Int := ⟨fun _ v x => v = .int x, fun _ h => h⟩
def zB : Rep Bool := ⟨fun _ v x => v = .bl x, fun _ h => h⟩
def zS : Rep Str := ⟨fun _ v x => v = .str x ∧ Asc x, fun _ h => h⟩
abbrev PVs {α : Type} (r : Rep α) (F : Hp) (vs : List V) (xs : List α) : Prop := Paired (fun v x => r.p F v x) vs xs
def zL {α : Type} (r : Rep α) : Rep (List α) := ⟨fun F v xs => ∃ a vs, v = .ref a ∧ F a = some (.lst vs) ∧ PVs r F vs xs, fun e ⟨a, vs, h1, h2, h3⟩ => ⟨a, vs, h1, e _ _ h2, Paired.imp2 (fun _ _ h => r.mono e h) h3⟩⟩
def isSD : PyData → Bool
  | .str _ => true
  | _ => false
def isSDs (ds : List PyData) : Bool := !ds.isEmpty && ds.all isSD
/-- which tuples stand at a place that holds nothing but the tuple (such may be keys of dicts); the place of another one may be known to be bare -/
class TNar (α : Type) where
  nar : List α → Bool
/-- all of them do -/
class TAll (α : Type) [TNar α] : Prop where
  all : ∀ xs : List α, TNar.nar xs = true
instance : TNar Int := ⟨fun _ => true⟩
instance : TAll Int := ⟨fun _ => rfl⟩
instance : TNar Str := ⟨fun xs => xs.isEmpty⟩
instance : TNar PyData := ⟨fun ds => !isSDs ds⟩
instance : TNar Bool := ⟨fun _ => true⟩
instance : TAll Bool := ⟨fun _ => rfl⟩
instance : TNar Unit := ⟨fun _ => true⟩
instance : TAll Unit := ⟨fun _ => rfl⟩
instance {α β : Type} : TNar (α × β) := ⟨fun _ => true⟩
instance {α β : Type} : TAll (α × β) := ⟨fun _ => rfl⟩
instance {α : Type} : TNar (List α) := ⟨fun _ => true⟩
instance {α : Type} : TAll (List α) := ⟨fun _ => rfl⟩
instance {α : Type} : TNar (Option α) := ⟨fun _ => true⟩
instance {α : Type} : TAll (Option α) := ⟨fun _ => rfl⟩
instance {α β : Type} : TNar (α ⊕ β) := ⟨fun _ => true⟩
instance {α β : Type} : TAll (α ⊕ β) := ⟨fun _ => rfl⟩
theorem TupX.tb {n : Bool} {F : Hp} {a : Addr} {vs : List V} (h : TupX n F a vs) : TupB n F a vs := h.imp (fun h => h.2) id
theorem TupB.rd {n : Bool} {F : Hp} {a : Addr} {vs : List V} (h : TupB n F a vs) : Rd F a (.tup vs) := h.elim .inl fun ⟨_, o, h, _⟩ => .inr ⟨o, h⟩
theorem TupB.nar {n : Bool} {F : Hp} {a : Addr} {vs : List V} (h : TupB n F a vs) (e : n = true) : F a = some (.tup vs) := h.elim id fun ⟨h0, _⟩ => by rw [e] at h0; cases h0
theorem TupB.sq {n : Bool} {K : PySem.W.Frag} {F H : Hp} {a : Addr} {vs : List V} (h : TupB n F a vs) (e : Same F H) : SqT K H a vs := .inl (h.mono e).rd
def zT {α : Type} [k : TNar α] (r : Rep α) : Rep (List α) := ⟨fun F v xs => ∃ a vs, v = .ref a ∧ TupB (k.nar xs) F a vs ∧ PVs r F vs xs, fun e ⟨a, vs, h1, h2, h3⟩ => ⟨a, vs, h1, h2.mono e, Paired.imp2 (fun _ _ h => r.mono e h) h3⟩⟩
/-- a tuple at a place that holds nothing but the tuple; a tuple of words at a bare place -/
def zN {α : Type} (r : Rep α) : Rep (List α) := ⟨fun F v xs => ∃ a vs, v = .ref a ∧ F a = some (.tup vs) ∧ PVs r F vs xs, fun e ⟨a, vs, h1, h2, h3⟩ => ⟨a, vs, h1, e _ _ h2, Paired.imp2 (fun _ _ h => r.mono e h) h3⟩⟩
def zK : Rep (List Str) := ⟨fun F v xs => ∃ a vs, v = .ref a ∧ TupX xs.isEmpty F a vs ∧ PVs zS F vs xs, fun e ⟨a, vs, h1, h2, h3⟩ => ⟨a, vs, h1, h2.mono e, Paired.imp2 (fun _ _ h => zS.mono e h) h3⟩⟩
def z2 {α β : Type} (r : Rep α) (s : Rep β) : Rep (α × β) := ⟨fun F v x => ∃ a u w, v = .ref a ∧ F a = some (.tup [u, w]) ∧ r.p F u x.1 ∧ s.p F w x.2, fun e ⟨a, u, w, h1, h2, h3, h4⟩ => ⟨a, u, w, h1, e _ _ h2, r.mono e h3, s.mono e h4⟩⟩
def z3 {α β γ : Type} (r : Rep α) (s : Rep β) (t : Rep γ) : Rep (α × β × γ) := ⟨fun F v x => ∃ a u w z, v = .ref a ∧ F a = some (.tup [u, w, z]) ∧ r.p F u x.1 ∧ s.p F w x.2.1 ∧ t.p F z x.2.2, fun e ⟨a, u, w, z, h1, h2, h3, h4, h5⟩ => ⟨a, u, w, z, h1, e _ _ h2, r.mono e h3, s.mono e h4, t.mono e h5⟩⟩
structure Cel where
  a : Addr
  own : Bool
  φ : Hp → HO → Prop
  mono : ∀ {F F' : Hp} {o : HO}, Same F F' → φ F o → φ F' o
  nt : ∀ {F : Hp} {o : HO} {vs : List V}, φ F o → o = .tup vs → False
/-- what F' may know beyond F: what is new, and tuples -/
def Nwr (F H : Hp) (a : Addr) (o : HO) : Prop := (∃ o', F a = some o') ∨ H a = none ∨ ∃ vs, o = .tup vs
def cL {α : Type} (a : Addr) (r : Rep α) (xs : List α) : Cel := ⟨a, true, fun F o => ∃ vs, o = .lst vs ∧ PVs r F vs xs, fun e ⟨vs, h1, h2⟩ => ⟨vs, h1, Paired.imp2 (fun _ _ h => r.mono e h) h2⟩, fun h e => by subst e; simp at h⟩
/-- the law's box at b, its script at l -/
def cBox (own : Bool) (b l : Addr) : Cel := ⟨b, own, fun F o => ∃ (ns : List Int) (i c r : Int), o = .lst [.int i, .int c, .int r, .ref l] ∧ F l = some (.lst (ns.map V.int)) ∧ 0 ≤ i, fun e ⟨ns, i, c, r, h1, h2, h3⟩ => ⟨ns, i, c, r, h1, e _ _ h2, h3⟩, fun h e => by subst e; simp at h⟩
/-- what stood at the beginning: F0 frozen, H0 all, B lent -/
structure Fr where
  F0 : Hp
  H0 : Hp
  B : List Addr
structure OkF (fr : Fr) (Θ : List Cel) (F H : Hp) : Prop where
  fh : Same F H
  f0 : Same fr.F0 F
  nw : ∀ a o, F a = some o → Nwr fr.F0 fr.H0 a o
  h0 : ∀ a o, a ∉ fr.B → fr.H0 a = some o → H a = some o
  al : ∀ a o, fr.H0 a = some o → ∃ o', H a = some o'
  nd : (Θ.map Cel.a).Nodup
  ce : ∀ c ∈ Θ, F c.a = none ∧ (∃ o, H c.a = some o ∧ c.φ F o) ∧ (if c.own = true then fr.H0 c.a = none else c.a ∈ fr.B)
section
variable {fr : Fr} {Θ : List Cel} {F F' H H' : Hp}
theorem OkF.h0n (k : OkF fr Θ F H) {p : Addr} (n : H p = none) : fr.H0 p = none := by
  cases q : fr.H0 p with
  | none => rfl
  | some o =>
    obtain ⟨o', h⟩ := k.al p o q
    rw [n] at h
    cases h
theorem OkF.new {p : Addr} {o : HO} (k : OkF fr Θ F H) (n : H p = none) : OkF fr Θ (upd F p o) (upd H p o) := by
  have nF : F p = none := k.fh.free n
  refine ⟨fun a u h => ?_, k.f0.trans (same_upd nF), fun a u h => ?_, fun a u hB h => ?_, fun a u h => ?_, k.nd, fun c hc => ?_⟩
  · by_cases e : a = p
    · subst e
      rw [upd_same] at h ⊢
      exact h
    · rw [upd_ne e] at h ⊢
      exact k.fh a u h
  · by_cases e : a = p
    · subst e
      exact .inr (.inl (k.h0n n))
    · rw [upd_ne e] at h
      exact k.nw a u h
  · have := k.h0 a u hB h
    rw [upd_ne (ne_of_none this n)]
    exact this
  · obtain ⟨o', h'⟩ := k.al a u h
    exact ⟨o', by rw [upd_ne (ne_of_none h' n)]; exact h'⟩
  · obtain ⟨h1, ⟨u, h2, h3⟩, h4⟩ := k.ce c hc
    have ne := ne_of_none h2 n
    exact ⟨by rw [upd_ne ne]; exact h1, ⟨u, by rw [upd_ne ne]; exact h2, c.mono (same_upd nF) h3⟩, h4⟩
theorem OkF.sameF {p : Addr} {o : HO} (k : OkF fr Θ F H) (n : H p = none) : Same F (upd F p o) := same_upd (k.fh.free n)
theorem OkF.mkOwn {c : Cel} {o : HO} (k : OkF fr Θ F H) (n : H c.a = none) (ho : c.own = true) (h : c.φ F o) : OkF fr (c :: Θ) F (upd H c.a o) := by
  refine ⟨k.fh.trans (same_upd n), k.f0, k.nw, fun a u hB h => ?_, fun a u h => ?_, ?_, fun d hd => ?_⟩
  · have := k.h0 a u hB h
    rw [upd_ne (ne_of_none this n)]
    exact this
  · obtain ⟨o', h'⟩ := k.al a u h
    exact ⟨o', by rw [upd_ne (ne_of_none h' n)]; exact h'⟩
  · rw [List.map_cons, List.nodup_cons]
    refine ⟨fun hm => ?_, k.nd⟩
    obtain ⟨d, hd, e⟩ := List.mem_map.mp hm
    obtain ⟨_, ⟨u, h2, _⟩, _⟩ := k.ce d hd
    rw [e, n] at h2
    cases h2
  · rcases List.mem_cons.mp hd with rfl | hd
    · exact ⟨k.fh.free n, ⟨o, upd_same, h⟩, by rw [if_pos ho]; exact k.h0n n⟩
    · obtain ⟨h1, ⟨u, h2, h3⟩, h4⟩ := k.ce d hd
      exact ⟨h1, ⟨u, by rw [upd_ne (ne_of_none h2 n)]; exact h2, h3⟩, h4⟩
theorem nodup_at {l : List Cel} (h : (l.map Cel.a).Nodup) {i : Nat} {c d : Cel} (hi : l[i]? = some c) {j : Nat} (hj : l[j]? = some d) (e : d.a = c.a) : i = j := by
  have hi' : (l.map Cel.a)[i]? = some c.a := by rw [List.getElem?_map, hi]; rfl
  have hj' : (l.map Cel.a)[j]? = some c.a := by rw [List.getElem?_map, hj, ← e]; rfl
  exact (List.getElem?_inj (List.getElem?_eq_some_iff.mp hi').1 h).mp (hi'.trans hj'.symm)
/-- a cell's content changes -/
theorem OkF.mut {i : Nat} {c c' : Cel} {o : HO} (k : OkF fr Θ F H) (hi : Θ[i]? = some c) (ha : c'.a = c.a) (ho : c'.own = c.own) (h : c'.φ F o) : OkF fr (Θ.set i c') F (upd H c.a o) := by
  have hm := List.mem_of_getElem? hi
  obtain ⟨h1, ⟨u0, h2, h3⟩, h4⟩ := k.ce c hm
  refine ⟨fun a u h => ?_, k.f0, k.nw, fun a u hB h => ?_, fun a u h => ?_, ?_, fun d hd => ?_⟩
  · have ne : a ≠ c.a := fun e => by rw [e, h1] at h; cases h
    rw [upd_ne ne]
    exact k.fh a u h
  · have ne : a ≠ c.a := fun e => by
      cases q : c.own with
      | true =>
        rw [if_pos q] at h4
        rw [e, h4] at h
        cases h
      | false =>
        rw [if_neg (by rw [q]; exact Bool.false_ne_true)] at h4
        rw [e] at hB
        exact hB h4
    rw [upd_ne ne]
    exact k.h0 a u hB h
  · by_cases e : a = c.a
    · exact ⟨o, by rw [e]; exact upd_same⟩
    · rw [upd_ne e]
      exact k.al a u h
  · have : (Θ.set i c').map Cel.a = Θ.map Cel.a := by
      rw [List.map_set, ha]
      apply List.ext_getElem?
      intro j
      rw [List.getElem?_set]
      split
      · rename_i e
        subst e
        rw [List.getElem?_map, hi]
        have hlt : i < (Θ.map Cel.a).length := by
          rw [List.length_map]
          exact (List.getElem?_eq_some_iff.mp hi).1
        rw [if_pos hlt]
        rfl
      · rfl
    rw [this]
    exact k.nd
  · obtain ⟨j, hj⟩ := List.getElem?_of_mem hd
    rw [List.getElem?_set] at hj
    split at hj
    · rename_i e
      split at hj
      · cases hj
        rw [ha, ho]
        exact ⟨h1, ⟨o, upd_same, h⟩, h4⟩
      · cases hj
    · rename_i e
      have hd' := List.mem_of_getElem? hj
      obtain ⟨g1, ⟨u, g2, g3⟩, g4⟩ := k.ce d hd'
      have ne : d.a ≠ c.a := fun q => e (nodup_at k.nd hi hj q)
      exact ⟨g1, ⟨u, by rw [upd_ne ne]; exact g2, g3⟩, g4⟩
/-- a cell of one's own is frozen -/
theorem OkF.frz {i : Nat} {c : Cel} {o : HO} (k : OkF fr Θ F H) (hi : Θ[i]? = some c) (ho : c.own = true) (h : H c.a = some o) : OkF fr (Θ.eraseIdx i) (upd F c.a o) H := by
  have hm := List.mem_of_getElem? hi
  obtain ⟨h1, _, h4⟩ := k.ce c hm
  rw [if_pos ho] at h4
  have hlt := (List.getElem?_eq_some_iff.mp hi).1
  refine ⟨fun a u e => ?_, k.f0.trans (same_upd h1), fun a u e => ?_, k.h0, k.al, ?_, fun d hd => ?_⟩
  · by_cases q : a = c.a
    · rw [q, upd_same] at e
      rw [q, h, e]
    · rw [upd_ne q] at e
      exact k.fh a u e
  · by_cases q : a = c.a
    · rw [q]
      exact .inr (.inl h4)
    · rw [upd_ne q] at e
      exact k.nw a u e
  · exact (List.Sublist.map Cel.a (List.eraseIdx_sublist Θ i)).nodup k.nd
  · obtain ⟨j, hj⟩ := List.getElem?_of_mem hd
    rw [List.getElem?_eraseIdx] at hj
    have key : ∀ j', j' ≠ i → Θ[j']? = some d → (upd F c.a o) d.a = none ∧ (∃ u, H d.a = some u ∧ d.φ (upd F c.a o) u) ∧ (if d.own = true then fr.H0 d.a = none else d.a ∈ fr.B) := fun j' hne hj' => by
      obtain ⟨g1, ⟨u, g2, g3⟩, g4⟩ := k.ce d (List.mem_of_getElem? hj')
      have ne : d.a ≠ c.a := fun q => hne (nodup_at k.nd hi hj' q).symm
      exact ⟨by rw [upd_ne ne]; exact g1, ⟨u, g2, d.mono (same_upd h1) g3⟩, g4⟩
    split at hj
    · exact key j (by omega) hj
    · exact key (j + 1) (by omega) hj
theorem OkF.nwr {a : Addr} {o : HO} (k : OkF fr Θ F H) (ff : Same F F') (h : F' a = some o) (n : Nwr F H a o) : Nwr fr.F0 fr.H0 a o := by
  rcases n with ⟨o', h'⟩ | h' | h'
  · have e := ff a o' h'
    rw [h] at e
    cases e
    exact k.nw a o h'
  · exact .inr (.inl (k.h0n h'))
  · exact .inr (.inr h')
/-- after a call that lets all stand -/
theorem OkF.grow (k : OkF fr Θ F H) (hh : Same H H') (ff : Same F F') (fh : Same F' H') (nw : ∀ a o, F' a = some o → Nwr F H a o) : OkF fr Θ F' H' := by
  refine ⟨fh, k.f0.trans ff, fun a o h => ?_, fun a o hB h => hh _ _ (k.h0 a o hB h), fun a o h => ?_, k.nd, fun c hc => ?_⟩
  · exact k.nwr ff h (nw a o h)
  · obtain ⟨o', h'⟩ := k.al a o h
    exact ⟨o', hh _ _ h'⟩
  · obtain ⟨h1, ⟨u, h2, h3⟩, h4⟩ := k.ce c hc
    refine ⟨?_, ⟨u, hh _ _ h2, c.mono ff h3⟩, h4⟩
    cases q : F' c.a with
    | none => rfl
    | some o =>
      rcases nw _ _ q with ⟨o', h'⟩ | h' | ⟨vs, ht⟩
      · rw [h1] at h'
        cases h'
      · rw [h2] at h'
        cases h'
      · have e1 := fh _ _ q
        rw [hh _ _ h2] at e1
        exact (c.nt h3 ((Option.some.inj e1).trans ht)).elim
/-- at the start of a def: all that stands is frozen -/
theorem OkF.start (fh : Same F H) : OkF ⟨F, H, []⟩ [] F H := ⟨fh, Same.refl F, fun a o h => .inl ⟨o, h⟩, fun _ _ _ h => h, fun _ o h => ⟨o, h⟩, List.nodup_nil, fun c hc => by cases hc⟩
end
abbrev Gam := List (Option Vp)
def EnvF (Γ : Gam) (σ : L2.St) (F : Hp) : Prop := Paired (fun (e : Option Vp) (s : Option V) => ∀ p, e = some p → ∃ v, s = some v ∧ p.p F v) Γ σ
section
variable {Γ : Gam} {σ : L2.St} {F F' : Hp}
theorem EnvF.mono (h : EnvF Γ σ F) (e : Same F F') : EnvF Γ σ F' := Paired.imp2 (fun _ _ h p hp => by
  obtain ⟨v, h1, h2⟩ := h p hp
  exact ⟨v, h1, p.mono e h2⟩) h
theorem EnvF.get {i : Nat} {p : Vp} (h : EnvF Γ σ F) (hi : Γ[i]? = some (some p)) : ∃ v, σ[i]? = some (some v) ∧ p.p F v := by
  obtain ⟨s, h1, h2⟩ := Paired.get h hi
  obtain ⟨v, rfl, h3⟩ := h2 p rfl
  exact ⟨v, h1, h3⟩
theorem Paired.set {α β : Type} {R : α → β → Prop} {a : α} {b : β} (r : R a b) : ∀ {l : List α} {m : List β} (i : Nat), Paired R l m → Paired R (l.set i a) (m.set i b)
  | _, _, _, .nil => .nil
  | _, _, 0, .cons _ t => .cons r t
  | _, _, i + 1, .cons x t => .cons x (Paired.set r i t)
theorem EnvF.set {i : Nat} {p : Vp} {v : V} (h : EnvF Γ σ F) (hp : p.p F v) : EnvF (Γ.set i (some p)) (σ.set i (some v)) F :=
  Paired.set (fun q hq => by cases hq; exact ⟨v, rfl, hp⟩) i h
theorem EnvF.drop {i : Nat} {s : Option V} (h : EnvF Γ σ F) : EnvF (Γ.set i none) (σ.set i s) F := Paired.set (fun q hq => by cases hq) i h
theorem EnvF.len (h : EnvF Γ σ F) : Γ.length = σ.length := Paired.len h
end
/-- wherever the names hold Γ and the cells Θ, P holds -/
def Kn (fr : Fr) (Γ : Gam) (Θ : List Cel) (P : L2.St → Hp → Prop) : Prop := ∀ σ F H, OkF fr Θ F H → EnvF Γ σ F → P σ H
def Kq (fr : Fr) (F : Hp) (K : Vp → List Cel → Prop) (Q : VK) : Prop := ∀ p Θ', K p Θ' → ∀ v F' H', Same F F' → OkF fr Θ' F' H' → p.p F' v → Q v H'
def Kb (fr : Fr) (F : Hp) (K : Bool → List Cel → Prop) (Q : Bool → Hp → Prop) : Prop := ∀ b Θ', K b Θ' → ∀ F' H', Same F F' → OkF fr Θ' F' H' → Q b H'
def Ka (fr : Fr) (F : Hp) (K : List Vp → List Cel → Prop) (Q : List V → Hp → Prop) : Prop := ∀ ps Θ', K ps Θ' → ∀ vs F' H', Same F F' → OkF fr Θ' F' H' → Paired (fun (p : Vp) v => p.p F' v) ps vs → Q vs H'
def Ko (fr : Fr) (F : Hp) (K : Option Int → List Cel → Prop) (Q : Option Int → Hp → Prop) : Prop := ∀ b Θ', K b Θ' → ∀ F' H', Same F F' → OkF fr Θ' F' H' → Q b H'
def We (fr : Fr) (Γ : Gam) (Θ : List Cel) (t : TE) (K : Vp → List Cel → Prop) : Prop := ∀ σ F H, OkF fr Θ F H → EnvF Γ σ F → ∀ Q, Kq fr F K Q → t σ H Q
def Wt (fr : Fr) (Γ : Gam) (Θ : List Cel) (t : TT) (K : Bool → List Cel → Prop) : Prop := ∀ σ F H, OkF fr Θ F H → EnvF Γ σ F → ∀ Q, Kb fr F K Q → t σ H Q
def Wa (fr : Fr) (Γ : Gam) (Θ : List Cel) (t : TA) (K : List Vp → List Cel → Prop) : Prop := ∀ σ F H, OkF fr Θ F H → EnvF Γ σ F → ∀ Q, Ka fr F K Q → t σ H Q
def Wo (fr : Fr) (Γ : Gam) (Θ : List Cel) (t : TO) (K : Option Int → List Cel → Prop) : Prop := ∀ σ F H, OkF fr Θ F H → EnvF Γ σ F → ∀ Q, Ko fr F K Q → t σ H Q
/-- by values -/
def Ops (fr : Fr) (Θ : List Cel) (r : R2) (p q : Vp) (K : Vp → List Cel → Prop) : Prop := ∀ F H v w, OkF fr Θ F H → p.p F v → q.p F w → ∀ Q, Kq fr F K Q → r v w H Q
def Uns (fr : Fr) (Θ : List Cel) (r : V → Hp → VK → Prop) (p : Vp) (K : Vp → List Cel → Prop) : Prop := ∀ F H v, OkF fr Θ F H → p.p F v → ∀ Q, Kq fr F K Q → r v H Q
def Cbs (fr : Fr) (Θ : List Cel) (r : List V → Hp → VK → Prop) (ps : List Vp) (K : Vp → List Cel → Prop) : Prop := ∀ F H vs, OkF fr Θ F H → Paired (fun (p : Vp) v => p.p F v) ps vs → ∀ Q, Kq fr F K Q → r vs H Q
def Mts (fr : Fr) (Θ : List Cel) (r : V → List V → Hp → VK → Prop) (p : Vp) (ps : List Vp) (K : Vp → List Cel → Prop) : Prop := ∀ F H v vs, OkF fr Θ F H → p.p F v → Paired (fun (p : Vp) v => p.p F v) ps vs → ∀ Q, Kq fr F K Q → r v vs H Q
def Sls (fr : Fr) (Θ : List Cel) (r : V → Option Int → Option Int → Hp → VK → Prop) (p : Vp) (lo hi : Option Int) (K : Vp → List Cel → Prop) : Prop := ∀ F H v, OkF fr Θ F H → p.p F v → ∀ Q, Kq fr F K Q → r v lo hi H Q
/-- the value alone, and nothing else changes -/
abbrev Ev (fr : Fr) (Γ : Gam) (Θ : List Cel) (t : TE) (p : Vp) : Prop := We fr Γ Θ t fun q Θ' => q = p ∧ Θ' = Θ
abbrev Et (fr : Fr) (Γ : Gam) (Θ : List Cel) (t : TT) (b : Bool) : Prop := Wt fr Γ Θ t fun c Θ' => c = b ∧ Θ' = Θ
section
variable {fr : Fr} {Γ Γ' : Gam} {Θ : List Cel} {F F' H H' : Hp} {K : Vp → List Cel → Prop} {Q : VK}
theorem Kq.mono (h : Kq fr F K Q) (e : Same F F') : Kq fr F' K Q := fun p Θ' k v F2 H2 s2 => h p Θ' k v F2 H2 (e.trans s2)
theorem Kq.go {p : Vp} {v : V} (h : Kq fr F K Q) (k : K p Θ) (ok : OkF fr Θ F H) (hp : p.p F v) : Q v H := h p Θ k v F H (Same.refl F) ok hp
/-- a new object -/
theorem Kq.new {p : Vp} {a : Addr} {o : HO} (h : Kq fr F K Q) (k : K p Θ) (ok : OkF fr Θ F H) (n : H a = none) (hp : p.p (upd F a o) (.ref a)) : Q (.ref a) (upd H a o) := h p Θ k _ _ _ (ok.sameF n) (ok.new n) hp
theorem We.imp {t : TE} {K' : Vp → List Cel → Prop} (w : We fr Γ Θ t K) (h : ∀ p Θ', K p Θ' → K' p Θ') : We fr Γ Θ t K' := fun σ F H ok env Q q => w σ F H ok env Q fun p Θ' k => q p Θ' (h p Θ' k)
theorem we_var {i : Nat} {p : Vp} (h : Γ[i]? = some (some p)) (k : K p Θ) : We fr Γ Θ (tVar i) K := fun σ F H ok env Q q => by
  obtain ⟨v, h1, h2⟩ := env.get h
  exact ⟨v, h1, q.go k ok h2⟩
theorem we_c {v : V} {p : Vp} (hp : ∀ F, p.p F v) (k : K p Θ) : We fr Γ Θ (tC v) K := fun σ F H ok env Q q => q.go k ok (hp F)
theorem we_cI {n : Int} (k : K (iz zI n) Θ) : We fr Γ Θ (tC (.int n)) K := we_c (fun _ => rfl) k
theorem we_cS {z : Str} (h : Asc z) (k : K (iz zS z) Θ) : We fr Γ Θ (tC (.str z)) K := we_c (p := iz zS z) (fun _ => ⟨rfl, h⟩) k
theorem we_cB {b : Bool} (k : K (iz zB b) Θ) : We fr Γ Θ (tC (.bl b)) K := we_c (fun _ => rfl) k
theorem we_cN (k : K zNon Θ) : We fr Γ Θ (tC .non) K := we_c (fun _ => rfl) k
theorem we_op {r : R2} {ta tb : TE} (w : We fr Γ Θ ta fun p Θ1 => We fr Γ Θ1 tb fun q Θ2 => Ops fr Θ2 r p q K) : We fr Γ Θ (tOp r ta tb) K := fun σ F H ok env Q q =>
  w σ F H ok env _ fun p Θ1 k v F1 H1 s1 ok1 hp => k σ F1 H1 ok1 (env.mono s1) _ fun p2 Θ2 k2 v2 F2 H2 s2 ok2 hp2 => k2 F2 H2 v v2 ok2 (p.mono s2 hp) hp2 Q (q.mono (s1.trans s2))
theorem we_un {r : V → Hp → VK → Prop} {ta : TE} (w : We fr Γ Θ ta fun p Θ1 => Uns fr Θ1 r p K) : We fr Γ Θ (tUn r ta) K := fun σ F H ok env Q q =>
  w σ F H ok env _ fun p Θ1 k v F1 H1 s1 ok1 hp => k F1 H1 v ok1 hp Q (q.mono s1)
theorem wa_nil {K : List Vp → List Cel → Prop} (k : K [] Θ) : Wa fr Γ Θ tNil K := fun σ F H ok env Q q => q [] Θ k [] F H (Same.refl F) ok .nil
theorem wa_cons {K : List Vp → List Cel → Prop} {ta : TE} {tr : TA} (w : We fr Γ Θ ta fun p Θ1 => Wa fr Γ Θ1 tr fun ps Θ2 => K (p :: ps) Θ2) : Wa fr Γ Θ (tCons ta tr) K := fun σ F H ok env Q q =>
  w σ F H ok env _ fun p Θ1 k v F1 H1 s1 ok1 hp => k σ F1 H1 ok1 (env.mono s1) _ fun ps Θ2 k2 vs F2 H2 s2 ok2 hps => q (p :: ps) Θ2 k2 (v :: vs) F2 H2 (s1.trans s2) ok2 (.cons (p.mono s2 hp) hps)
theorem we_cb {r : List V → Hp → VK → Prop} {t : TA} (w : Wa fr Γ Θ t fun ps Θ1 => Cbs fr Θ1 r ps K) : We fr Γ Θ (tCB r t) K := fun σ F H ok env Q q =>
  w σ F H ok env _ fun ps Θ1 k vs F1 H1 s1 ok1 hps => k F1 H1 vs ok1 hps Q (q.mono s1)
theorem we_bm {Kf : PySem.W.Frag} {T : String} {r : V → List V → Hp → VK → Prop} {to : TE} {t : TA} (w : We fr Γ Θ to fun p Θ1 => (∀ F H v, OkF fr Θ1 F H → p.p F v → tyV Kf T v H) ∧ Wa fr Γ Θ1 t fun ps Θ2 => Mts fr Θ2 r p ps K) : We fr Γ Θ (tBM Kf T r to t) K := fun σ F H ok env Q q =>
  w σ F H ok env _ fun p Θ1 ⟨kt, k⟩ v F1 H1 s1 ok1 hp => ⟨kt F1 H1 v ok1 hp, k σ F1 H1 ok1 (env.mono s1) _ fun ps Θ2 k2 vs F2 H2 s2 ok2 hps => k2 F2 H2 v vs ok2 (p.mono s2 hp) hps Q (q.mono (s1.trans s2))⟩
theorem wo_none {K : Option Int → List Cel → Prop} (k : K none Θ) : Wo fr Γ Θ tNoPart K := fun σ F H ok env Q q => q none Θ k F H (Same.refl F) ok
theorem wo_some {K : Option Int → List Cel → Prop} {t : TE} (w : We fr Γ Θ t fun p Θ1 => ∃ n, p = iz zI n ∧ K (some n) Θ1) : Wo fr Γ Θ (tPart t) K := fun σ F H ok env Q q =>
  w σ F H ok env _ fun p Θ1 ⟨n, e, k⟩ v F1 H1 s1 ok1 hp => by
    subst e
    exact ⟨n, hp, q (some n) Θ1 k F1 H1 s1 ok1⟩
theorem we_sl {r : V → Option Int → Option Int → Hp → VK → Prop} {te : TE} {tl th : TO} (w : We fr Γ Θ te fun p Θ1 => Wo fr Γ Θ1 tl fun lo Θ2 => Wo fr Γ Θ2 th fun hi Θ3 => Sls fr Θ3 r p lo hi K) : We fr Γ Θ (tSl r te tl th) K := fun σ F H ok env Q q =>
  w σ F H ok env _ fun p Θ1 k v F1 H1 s1 ok1 hp => k σ F1 H1 ok1 (env.mono s1) _ fun lo Θ2 k2 F2 H2 s2 ok2 => k2 σ F2 H2 ok2 ((env.mono s1).mono s2) _ fun hi Θ3 k3 F3 H3 s3 ok3 =>
    k3 F3 H3 v ok3 (p.mono (s2.trans s3) hp) Q (q.mono ((s1.trans s2).trans s3))
theorem wt_test {K : Bool → List Cel → Prop} {t : TE} (w : We fr Γ Θ t fun p Θ1 => ∃ b, p = iz zB b ∧ K b Θ1) : Wt fr Γ Θ (tTest t) K := fun σ F H ok env Q q =>
  w σ F H ok env _ fun p Θ1 ⟨b, e, k⟩ v F1 H1 s1 ok1 hp => by
    subst e
    exact ⟨b, hp, q b Θ1 k F1 H1 s1 ok1⟩
theorem wt_b {K : Bool → List Cel → Prop} {t : TE} (w : We fr Γ Θ t fun p Θ1 => ∃ b, p = iz zB b ∧ K b Θ1) : Wt fr Γ Θ (tB t) K := wt_test (fr := fr) w
theorem wt_not {K : Bool → List Cel → Prop} {t : TT} (w : Wt fr Γ Θ t fun b Θ1 => K (!b) Θ1) : Wt fr Γ Θ (tNot t) K := fun σ F H ok env Q q =>
  w σ F H ok env _ fun b Θ1 k F1 H1 s1 ok1 => q (!b) Θ1 k F1 H1 s1 ok1
theorem wt_and {K : Bool → List Cel → Prop} {t u : TT} {b c : Bool} (w : Et fr Γ Θ t b) (x : b = true → Et fr Γ Θ u c) (k : K (b && c) Θ) : Wt fr Γ Θ (tAnd t u) K := fun σ F H ok env Q q =>
  w σ F H ok env _ fun b1 Θ1 ⟨e1, e2⟩ F1 H1 s1 ok1 => by
    subst e1 e2
    cases b1 with
    | true =>
      rw [if_pos rfl]
      refine x rfl σ F1 H1 ok1 (env.mono s1) _ fun c1 Θ2 ⟨e1, e2⟩ F2 H2 s2 ok2 => ?_
      subst e1 e2
      exact q c1 _ k F2 H2 (s1.trans s2) ok2
    | false =>
      rw [if_neg Bool.false_ne_true]
      exact q false _ k F1 H1 s1 ok1
theorem wt_or {K : Bool → List Cel → Prop} {t u : TT} {b c : Bool} (w : Et fr Γ Θ t b) (x : b = false → Et fr Γ Θ u c) (k : K (b || c) Θ) : Wt fr Γ Θ (tOr t u) K := fun σ F H ok env Q q =>
  w σ F H ok env _ fun b1 Θ1 ⟨e1, e2⟩ F1 H1 s1 ok1 => by
    subst e1 e2
    cases b1 with
    | false =>
      rw [if_neg Bool.false_ne_true]
      refine x rfl σ F1 H1 ok1 (env.mono s1) _ fun c1 Θ2 ⟨e1, e2⟩ F2 H2 s2 ok2 => ?_
      subst e1 e2
      exact q c1 _ k F2 H2 (s1.trans s2) ok2
    | true =>
      rw [if_pos rfl]
      exact q true _ k F1 H1 s1 ok1
theorem we_not {t : TE} (w : We fr Γ Θ t fun p Θ1 => ∃ b, p = iz zB b ∧ K (iz zB (!b)) Θ1) : We fr Γ Θ (tNotV t) K := fun σ F H ok env Q q =>
  w σ F H ok env _ fun p Θ1 ⟨b, e, k⟩ v F1 H1 s1 ok1 hp => by
    subst e
    exact ⟨b, hp, q _ Θ1 k _ F1 H1 s1 ok1 rfl⟩
/-- a if c else b, by ways -/
theorem we_if {c : TT} {ta tb : TE} (w : Wt fr Γ Θ c fun b Θ1 => (b = true → We fr Γ Θ1 ta K) ∧ (b = false → We fr Γ Θ1 tb K)) : We fr Γ Θ (tIf c ta tb) K := fun σ F H ok env Q q =>
  w σ F H ok env _ fun b Θ1 ⟨k1, k2⟩ F1 H1 s1 ok1 => by
    cases b with
    | true =>
      rw [if_pos rfl]
      exact k1 rfl σ F1 H1 ok1 (env.mono s1) Q (q.mono s1)
    | false =>
      rw [if_neg Bool.false_ne_true]
      exact k2 rfl σ F1 H1 ok1 (env.mono s1) Q (q.mono s1)
theorem kn_seq {t u : TS} {D : Ends} (h : Kn fr Γ Θ (t { D with nx := u D })) : Kn fr Γ Θ (tSeq t u D) := h
theorem kn_next {D : Ends} (h : Kn fr Γ Θ D.nx) : Kn fr Γ Θ (tNext D) := h
/-- a target -/
def TgR (g : TG) (vs : List Nat) (p : Vp) (Γ Γ' : Gam) : Prop := ∀ σ F H v, Same F H → EnvF Γ σ F → p.p F v → ∀ Q : L2.St → Hp → Prop, (∀ σ', EnvF Γ' σ' F → wipe σ' vs = wipe σ vs → Q σ' H) → g v σ H Q
theorem tg_name {i : Nat} {p : Vp} : TgR (gName i) [i] p Γ (Γ.set i (some p)) := fun σ F H v fh env hp Q q => q _ (env.set hp) (by
  show (σ.set i (some v)).set i none = σ.set i none
  rw [List.set_set])
theorem set_comm' {α : Type} {l : List α} {i j : Nat} {a b : α} (h : i ≠ j) : (l.set i a).set j b = (l.set j b).set i a := List.set_comm a b h
theorem tg2 {Kf : PySem.W.Frag} {i j : Nat} {α β : Type} {r : Rep α} {s : Rep β} {x : α × β} (hij : i ≠ j) : TgR (gTup Kf 2 (gCons (gName i) (gCons (gName j) gNil))) [i, j] (iz (z2 r s) x) Γ ((Γ.set i (some (iz r x.1))).set j (some (iz s x.2))) := fun σ F H v fh env hp Q q => by
  obtain ⟨a, u, w, rfl, h2, h3, h4⟩ := hp
  refine ⟨a, _, rfl, SqT.of (fh _ _ h2), rfl, u, _, rfl, w, _, rfl, rfl, q _ ((env.set (p := iz r x.1) h3).set (p := iz s x.2) h4) ?_⟩
  show ((((σ.set i (some u)).set j (some w)).set j none).set i none) = (σ.set j none).set i none
  rw [List.set_set, set_comm' hij, List.set_set]
theorem tg3 {Kf : PySem.W.Frag} {i j l : Nat} {α β γ : Type} {r : Rep α} {s : Rep β} {t : Rep γ} {x : α × β × γ} (hij : i ≠ j) (hil : i ≠ l) (hjl : j ≠ l) : TgR (gTup Kf 3 (gCons (gName i) (gCons (gName j) (gCons (gName l) gNil)))) [i, j, l] (iz (z3 r s t) x) Γ (((Γ.set i (some (iz r x.1))).set j (some (iz s x.2.1))).set l (some (iz t x.2.2))) := fun σ F H v fh env hp Q q => by
  obtain ⟨a, u, w, z, rfl, h2, h3, h4, h5⟩ := hp
  refine ⟨a, _, rfl, SqT.of (fh _ _ h2), rfl, u, _, rfl, w, _, rfl, z, _, rfl, rfl, q _ (((env.set (p := iz r x.1) h3).set (p := iz s x.2.1) h4).set (p := iz t x.2.2) h5) ?_⟩
  show ((((((σ.set i (some u)).set j (some w)).set l (some z)).set l none).set j none).set i none) = ((σ.set l none).set j none).set i none
  rw [List.set_set, set_comm' hjl, List.set_set, set_comm' hil, set_comm' hij, List.set_set]
theorem kn_asg {te : TE} {i : Nat} {D : Ends} (w : We fr Γ Θ te fun p Θ1 => Kn fr (Γ.set i (some p)) Θ1 D.nx) : Kn fr Γ Θ (tAsg te (gName i) D) := fun σ F H ok env =>
  w σ F H ok env _ fun p Θ1 k v F1 H1 s1 ok1 hp => k _ F1 H1 ok1 ((env.mono s1).set hp)
theorem kn_asgT {te : TE} {g : TG} {D : Ends} (w : We fr Γ Θ te fun p Θ1 => ∃ vs Γ', TgR g vs p Γ Γ' ∧ Kn fr Γ' Θ1 D.nx) : Kn fr Γ Θ (tAsg te g D) := fun σ F H ok env =>
  w σ F H ok env _ fun p Θ1 ⟨vs, Γ', tg, k⟩ v F1 H1 s1 ok1 hp => tg σ F1 H1 v ok1.fh (env.mono s1) hp _ fun σ' env' _ => k σ' F1 H1 ok1 env'
theorem kn_if {c : TT} {t u : TS} {D : Ends} (w : Wt fr Γ Θ c fun b Θ1 => (b = true → Kn fr Γ Θ1 (t D)) ∧ (b = false → Kn fr Γ Θ1 (u D))) : Kn fr Γ Θ (tIfS c t u D) := fun σ F H ok env =>
  w σ F H ok env _ fun b Θ1 ⟨k1, k2⟩ F1 H1 s1 ok1 => by
    cases b with
    | true =>
      rw [if_pos rfl]
      exact k1 rfl σ F1 H1 ok1 (env.mono s1)
    | false =>
      rw [if_neg Bool.false_ne_true]
      exact k2 rfl σ F1 H1 ok1 (env.mono s1)
/-- what is returned -/
def Rt (fr : Fr) (Θ : List Cel) (rt : VK) (p : Vp) : Prop := ∀ v F H, OkF fr Θ F H → p.p F v → rt v H
theorem kn_ret {te : TE} {D : Ends} (w : We fr Γ Θ te fun p Θ1 => Rt fr Θ1 D.rt p) : Kn fr Γ Θ (tRet te D) := fun σ F H ok env =>
  w σ F H ok env _ fun p Θ1 k v F1 H1 s1 ok1 hp => k v F1 H1 ok1 hp
theorem kn_drop {te : TE} {D : Ends} (w : We fr Γ Θ te fun p Θ1 => Kn fr Γ Θ1 D.nx) : Kn fr Γ Θ (tDrop te D) := fun σ F H ok env =>
  w σ F H ok env _ fun p Θ1 k v F1 H1 s1 ok1 hp => k σ F1 H1 ok1 (env.mono s1)
/-- less is known -/
def GLe (Γ Γ' : Gam) : Prop := Paired (fun (e e' : Option Vp) => e' = none ∨ e' = e) Γ Γ'
theorem EnvF.le {σ : L2.St} (h : EnvF Γ σ F) (l : GLe Γ Γ') : EnvF Γ' σ F := by
  induction l generalizing σ with
  | nil => exact h
  | cons a _ ih =>
    cases h with
    | cons b c =>
      refine .cons (fun p hp => ?_) (ih c)
      rcases a with a | a
      · rw [a] at hp
        cases hp
      · rw [a] at hp
        exact b p hp
theorem Kn.le {P : L2.St → Hp → Prop} (k : Kn fr Γ' Θ P) (l : GLe Γ Γ') : Kn fr Γ Θ P := fun σ F H ok env => k σ F H ok (env.le l)
/-- a point where ways meet -/
def Mid (fr : Fr) (I : Gam → List Cel → Prop) (σ : L2.St) (H : Hp) : Prop := ∃ Γ Θ F, I Γ Θ ∧ OkF fr Θ F H ∧ EnvF Γ σ F
theorem kn_mid {I : Gam → List Cel → Prop} (h : ∃ Γ', GLe Γ Γ' ∧ I Γ' Θ) : Kn fr Γ Θ (Mid fr I) := fun σ F H ok env => by
  obtain ⟨Γ', l, i⟩ := h
  exact ⟨Γ', Θ, F, i, ok, env.le l⟩
theorem kn_cut {t u : TS} {D : Ends} (I : Gam → List Cel → Prop) (h : Kn fr Γ Θ (t { D with nx := Mid fr I })) (k : ∀ Γ Θ, I Γ Θ → Kn fr Γ Θ (u D)) : Kn fr Γ Θ (C8.tCut t u D) := fun σ F H ok env =>
  ⟨Mid fr I, h σ F H ok env, fun σ' H' ⟨Γ1, Θ1, F1, i, ok1, env1⟩ => k Γ1 Θ1 i σ' F1 H' ok1 env1⟩
end
end L2
set_option Elab.async false
set_option linter.all false
set_option maxRecDepth 100000
set_option maxHeartbeats 4000000
namespace L2
open PySem PySem.Spec PyProof.Rows PySem.HErr
section
variable {fr : Fr} {Γ Γ' : Gam} {Θ : List Cel} {F F' H H' : Hp} {K : Vp → List Cel → Prop} {Q : VK}
theorem ops_I0 {h : Int → Int → Int} {m n : Int} (k : K (iz zI (h m n)) Θ) : Ops fr Θ (rI0 fun i j => .int (h i j)) (iz zI m) (iz zI n) K := fun F H v w ok hv hw Q q => ⟨m, n, hv, hw, q.go k ok rfl⟩
theorem ops_B0 {h : Int → Int → Bool} {m n : Int} (k : K (iz zB (h m n)) Θ) : Ops fr Θ (rI0 fun i j => .bl (h i j)) (iz zI m) (iz zI n) K := fun F H v w ok hv hw Q q => ⟨m, n, hv, hw, q.go k ok rfl⟩
theorem ops_IC {C : Int → Int → Prop} {h : Int → Int → Int} {m n : Int} (c : C m n) (k : K (iz zI (h m n)) Θ) : Ops fr Θ (rI C fun i j => .int (h i j)) (iz zI m) (iz zI n) K := fun F H v w ok hv hw Q q => ⟨m, n, hv, hw, c, q.go k ok rfl⟩
theorem uns_I {h : Int → Int} {m : Int} (k : K (iz zI (h m)) Θ) : Uns fr Θ (rU fun i => .int (h i)) (iz zI m) K := fun F H v ok hv Q q => ⟨m, hv, q.go k ok rfl⟩
theorem dec_inj {α : Type} [DecidableEq α] {c : α → V} (hc : ∀ x y, c x = c y → x = y) (x y : α) : decide (c x = c y) = decide (x = y) := by
  by_cases e : x = y
  · rw [e, decide_eq_true rfl, decide_eq_true rfl]
  · rw [decide_eq_false e, decide_eq_false fun q => e (hc _ _ q)]
theorem ops_eqI {m n : Int} (k : K (iz zB (decide (m = n))) Θ) : Ops fr Θ rEq (iz zI m) (iz zI n) K := fun F H v w ok hv hw Q q => by
  have hv : v = .int m := hv
  have hw : w = .int n := hw
  subst hv hw
  refine ⟨rfl, ?_⟩
  rw [dec_inj (fun x y => V.int.inj)]
  exact q.go k ok rfl
theorem ops_neI {m n : Int} (k : K (iz zB (!decide (m = n))) Θ) : Ops fr Θ rNe (iz zI m) (iz zI n) K := fun F H v w ok hv hw Q q => by
  have hv : v = .int m := hv
  have hw : w = .int n := hw
  subst hv hw
  refine ⟨rfl, ?_⟩
  rw [dec_inj (fun x y => V.int.inj)]
  exact q.go k ok rfl
theorem ops_eqS {m n : Str} (k : K (iz zB (decide (m = n))) Θ) : Ops fr Θ rEq (iz zS m) (iz zS n) K := fun F H v w ok hv hw Q q => by
  obtain ⟨hv, _⟩ := hv
  obtain ⟨hw, _⟩ := hw
  subst hv hw
  refine ⟨rfl, ?_⟩
  rw [dec_inj (fun x y => V.str.inj)]
  exact q.go k ok rfl
theorem ops_neS {m n : Str} (k : K (iz zB (!decide (m = n))) Θ) : Ops fr Θ rNe (iz zS m) (iz zS n) K := fun F H v w ok hv hw Q q => by
  obtain ⟨hv, _⟩ := hv
  obtain ⟨hw, _⟩ := hw
  subst hv hw
  refine ⟨rfl, ?_⟩
  rw [dec_inj (fun x y => V.str.inj)]
  exact q.go k ok rfl
theorem ops_eqB {m n : Bool} (k : K (iz zB (decide (m = n))) Θ) : Ops fr Θ rEq (iz zB m) (iz zB n) K := fun F H v w ok hv hw Q q => by
  have hv : v = .bl m := hv
  have hw : w = .bl n := hw
  subst hv hw
  refine ⟨rfl, ?_⟩
  rw [dec_inj (fun x y => V.bl.inj)]
  exact q.go k ok rfl
theorem ops_neB {m n : Bool} (k : K (iz zB (!decide (m = n))) Θ) : Ops fr Θ rNe (iz zB m) (iz zB n) K := fun F H v w ok hv hw Q q => by
  have hv : v = .bl m := hv
  have hw : w = .bl n := hw
  subst hv hw
  refine ⟨rfl, ?_⟩
  rw [dec_inj (fun x y => V.bl.inj)]
  exact q.go k ok rfl
theorem ops_addS {m n : Str} (hl : m.length + n.length ≤ sizeLine) (k : K (iz zS (m ++ n)) Θ) : Ops fr Θ (fun x y H Q => ∃ i j, x = .str i ∧ y = .str j ∧ i.length + j.length ≤ sizeLine ∧ Q (.str (i ++ j)) H) (iz zS m) (iz zS n) K := fun F H v w ok hv hw Q q => by
  obtain ⟨hv, a1⟩ := hv
  obtain ⟨hw, a2⟩ := hw
  exact ⟨m, n, hv, hw, hl, q.go k ok ⟨rfl, a1.app a2⟩⟩
theorem pvs_S {vs : List V} {xs : List Str} (h : PVs zS F vs xs) : vs = xs.map V.str ∧ ∀ x ∈ xs, Asc x := by
  induction h with
  | nil => exact ⟨rfl, fun x hx => by cases hx⟩
  | cons a _ ih =>
    obtain ⟨a1, a2⟩ := a
    refine ⟨by rw [a1, ih.1]; rfl, fun x hx => ?_⟩
    rcases List.mem_cons.mp hx with rfl | hx
    · exact a2
    · exact ih.2 x hx
theorem pvs_I {vs : List V} {xs : List Int} (h : PVs zI F vs xs) : vs = xs.map V.int := by
  induction h with
  | nil => rfl
  | cons a _ ih =>
    have a : _ = V.int _ := a
    rw [a, ih]
    rfl
theorem pvs_B {vs : List V} {xs : List Bool} (h : PVs zB F vs xs) : vs = xs.map V.bl := by
  induction h with
  | nil => rfl
  | cons a _ ih =>
    have a : _ = V.bl _ := a
    rw [a, ih]
    rfl
theorem inV_ints (n : Int) (ws : List Int) : inV (.int n) (ws.map V.int) = decide (n ∈ ws) := by
  induction ws with
  | nil => rfl
  | cons a ws ih =>
    unfold inV at ih ⊢
    rw [List.map_cons, List.any_cons, ih]
    have e : eqV (V.int a) (V.int n) = decide (a = n) := rfl
    rw [e]
    by_cases h : a = n
    · rw [h]
      simp
    · rw [decide_eq_false h, Bool.false_or]
      by_cases h2 : n ∈ ws
      · rw [decide_eq_true h2, decide_eq_true (List.mem_cons_of_mem _ h2)]
      · rw [decide_eq_false h2, decide_eq_false fun q => (List.mem_cons.mp q).elim (fun e => h e.symm) h2]
theorem flat_intsG (ws : List Int) : (ws.map V.int).all flatV = true := by
  rw [List.all_map, List.all_eq_true]
  intro x _
  rfl
/-- a thing whose entries are xs, to be read: a frozen list, a frozen tuple, a cell -/
def SeqP {α : Type} (fr : Fr) (Θ : List Cel) (p : Vp) (r : Rep α) (xs : List α) : Prop := ∀ F H v, OkF fr Θ F H → p.p F v → ∃ a vs, v = .ref a ∧ (Rd H a (.lst vs) ∨ Rd H a (.tup vs)) ∧ PVs r F vs xs
theorem seq_L {α : Type} {r : Rep α} {xs : List α} : SeqP fr Θ (iz (zL r) xs) r xs := fun F H v ok ⟨a, vs, h1, h2, h3⟩ => ⟨a, vs, h1, .inl (.inl (ok.fh _ _ h2)), h3⟩
theorem seq_T {α : Type} [TNar α] {r : Rep α} {xs : List α} : SeqP fr Θ (iz (zT r) xs) r xs := fun F H v ok ⟨a, vs, h1, h2, h3⟩ => ⟨a, vs, h1, .inr (h2.mono ok.fh).rd, h3⟩
theorem seq_C {α : Type} {r : Rep α} {xs : List α} {a : Addr} (hc : cL a r xs ∈ Θ) : SeqP fr Θ (zAt a) r xs := fun F H v ok hv => by
  obtain ⟨_, ⟨o, h2, vs, rfl, h4⟩, _⟩ := ok.ce _ hc
  exact ⟨a, vs, hv, .inl (.inl h2), h4⟩
theorem sq_or {Kf : PySem.W.Frag} {a : Addr} {vs : List V} (h : Rd H a (.lst vs) ∨ Rd H a (.tup vs)) : SqL Kf H a vs ∨ SqT Kf H a vs := h.elim (fun h => .inl (.inl h)) fun h => .inr (.inl h)
theorem ops_inS {Kf : PySem.W.Frag} {p : Vp} {z : Str} {xs : List Str} (h : SeqP fr Θ p zS xs) (k : K (iz zB (decide (z ∈ xs))) Θ) : Ops fr Θ (rIn Kf false) (iz zS z) p K := fun F H v w ok hv hw Q q => by
  obtain ⟨hv, _⟩ := hv
  obtain ⟨a, vs, rfl, h2, h3⟩ := h F H w ok hw
  obtain ⟨rfl, _⟩ := pvs_S h3
  subst hv
  refine ⟨a, _, rfl, sq_or h2, rfl, flat_strsB _, ?_⟩
  rw [inV_strs]
  exact q.go k ok rfl
theorem ops_ninS {Kf : PySem.W.Frag} {p : Vp} {z : Str} {xs : List Str} (h : SeqP fr Θ p zS xs) (k : K (iz zB (!decide (z ∈ xs))) Θ) : Ops fr Θ (rIn Kf true) (iz zS z) p K := fun F H v w ok hv hw Q q => by
  obtain ⟨hv, _⟩ := hv
  obtain ⟨a, vs, rfl, h2, h3⟩ := h F H w ok hw
  obtain ⟨rfl, _⟩ := pvs_S h3
  subst hv
  refine ⟨a, _, rfl, sq_or h2, rfl, flat_strsB _, ?_⟩
  rw [inV_strs]
  exact q.go k ok rfl
theorem ops_inI {Kf : PySem.W.Frag} {p : Vp} {z : Int} {xs : List Int} (h : SeqP fr Θ p zI xs) (k : K (iz zB (decide (z ∈ xs))) Θ) : Ops fr Θ (rIn Kf false) (iz zI z) p K := fun F H v w ok hv hw Q q => by
  have hv : v = .int z := hv
  obtain ⟨a, vs, rfl, h2, h3⟩ := h F H w ok hw
  have := pvs_I h3
  subst hv this
  refine ⟨a, _, rfl, sq_or h2, rfl, flat_intsG _, ?_⟩
  rw [inV_ints]
  exact q.go k ok rfl
theorem pvs_at {α : Type} {r : Rep α} {vs : List V} {xs : List α} {n : Int} {x : α} (h : PVs r F vs xs) (e : atI xs n = some x) : ∃ v, atI vs n = some v ∧ r.p F v x := by
  unfold atI at e ⊢
  rw [Paired.len h]
  cases q : ixN xs.length n with
  | none =>
    rw [q] at e
    cases e
  | some j =>
    rw [q] at e
    exact Paired.get' h e
theorem ops_ixL {Kf : PySem.W.Frag} {α : Type} {r : Rep α} {xs : List α} {n : Int} {x : α} (e : atI xs n = some x) (k : K (iz r x) Θ) : Ops fr Θ (rIxL Kf) (iz (zL r) xs) (iz zI n) K := fun F H v w ok hv hw Q q => by
  obtain ⟨a, vs, rfl, h2, h3⟩ := hv
  obtain ⟨u, h4, h5⟩ := pvs_at h3 e
  exact ⟨a, vs, n, u, rfl, hw, SqL.of (ok.fh _ _ h2), h4, q.go k ok h5⟩
theorem ops_ixT {Kf : PySem.W.Frag} {α : Type} [TNar α] {r : Rep α} {xs : List α} {n : Int} {x : α} (e : atI xs n = some x) (k : K (iz r x) Θ) : Ops fr Θ (rIxT Kf) (iz (zT r) xs) (iz zI n) K := fun F H v w ok hv hw Q q => by
  obtain ⟨a, vs, rfl, h2, h3⟩ := hv
  obtain ⟨u, h4, h5⟩ := pvs_at h3 e
  exact ⟨a, vs, n, u, rfl, hw, h2.sq ok.fh, h4, q.go k ok h5⟩
/-- x[0], x[1] of a pair; x[0], x[1], x[2] of a triple -/
theorem ops_ix20 {Kf : PySem.W.Frag} {α β : Type} {r : Rep α} {s : Rep β} {x : α × β} (k : K (iz r x.1) Θ) : Ops fr Θ (rIxT Kf) (iz (z2 r s) x) (iz zI 0) K := fun F H v w ok hv hw Q q => by
  obtain ⟨a, u, z, rfl, h2, h3, h4⟩ := hv
  exact ⟨a, _, 0, u, rfl, hw, SqT.of (ok.fh _ _ h2), rfl, q.go k ok h3⟩
theorem ops_ix21 {Kf : PySem.W.Frag} {α β : Type} {r : Rep α} {s : Rep β} {x : α × β} (k : K (iz s x.2) Θ) : Ops fr Θ (rIxT Kf) (iz (z2 r s) x) (iz zI 1) K := fun F H v w ok hv hw Q q => by
  obtain ⟨a, u, z, rfl, h2, h3, h4⟩ := hv
  exact ⟨a, _, 1, z, rfl, hw, SqT.of (ok.fh _ _ h2), rfl, q.go k ok h4⟩
theorem ops_ix30 {Kf : PySem.W.Frag} {α β γ : Type} {r : Rep α} {s : Rep β} {t : Rep γ} {x : α × β × γ} (k : K (iz r x.1) Θ) : Ops fr Θ (rIxT Kf) (iz (z3 r s t) x) (iz zI 0) K := fun F H v w ok hv hw Q q => by
  obtain ⟨a, u, z, y, rfl, h2, h3, h4, h5⟩ := hv
  exact ⟨a, _, 0, u, rfl, hw, SqT.of (ok.fh _ _ h2), rfl, q.go k ok h3⟩
theorem ops_ix31 {Kf : PySem.W.Frag} {α β γ : Type} {r : Rep α} {s : Rep β} {t : Rep γ} {x : α × β × γ} (k : K (iz s x.2.1) Θ) : Ops fr Θ (rIxT Kf) (iz (z3 r s t) x) (iz zI 1) K := fun F H v w ok hv hw Q q => by
  obtain ⟨a, u, z, y, rfl, h2, h3, h4, h5⟩ := hv
  exact ⟨a, _, 1, z, rfl, hw, SqT.of (ok.fh _ _ h2), rfl, q.go k ok h4⟩
theorem ops_ix32 {Kf : PySem.W.Frag} {α β γ : Type} {r : Rep α} {s : Rep β} {t : Rep γ} {x : α × β × γ} (k : K (iz t x.2.2) Θ) : Ops fr Θ (rIxT Kf) (iz (z3 r s t) x) (iz zI 2) K := fun F H v w ok hv hw Q q => by
  obtain ⟨a, u, z, y, rfl, h2, h3, h4, h5⟩ := hv
  exact ⟨a, _, 2, y, rfl, hw, SqT.of (ok.fh _ _ h2), rfl, q.go k ok h5⟩
theorem ops_ixS {z : Str} {n : Int} {c : Nat} (hl : z.length ≤ sizeLine) (e : atI z.cps.toList n = some c) (k : K (iz zS ⟨#[c]⟩) Θ) : Ops fr Θ rIxS (iz zS z) (iz zI n) K := fun F H v w ok hv hw Q q => by
  obtain ⟨hv, ha⟩ := hv
  refine ⟨z, n, c, hv, hw, hl, e, q.go k ok ⟨rfl, Asc.one (ha c ?_)⟩⟩
  unfold atI at e
  cases j : ixN z.cps.toList.length n with
  | none => rw [j] at e; cases e
  | some j' =>
    rw [j] at e
    exact List.mem_of_getElem? e
def TupR (ps : List Vp) (q : Vp) : Prop := ∀ F a vs, F a = some (HO.tup vs) → Paired (fun (p : Vp) v => p.p F v) ps vs → q.p F (.ref a)
theorem small_len {α β : Type} {R : α → β → Prop} {l : List α} {m : List β} (h : Paired R l m) (hl : l.length ≤ 1000) : m.length ≤ sizeLine := by
  rw [← Paired.len h]
  exact Nat.le_of_lt (small1000 hl)
theorem ps_mono {ps : List Vp} {vs : List V} (e : Same F F') (h : Paired (fun (p : Vp) v => p.p F v) ps vs) : Paired (fun (p : Vp) v => p.p F' v) ps vs := Paired.imp2 (fun p _ h => p.mono e h) h
theorem we_tup {t : TA} (w : Wa fr Γ Θ t fun ps Θ1 => ps.length ≤ 1000 ∧ ∃ q, TupR ps q ∧ K q Θ1) : We fr Γ Θ (tTup t) K := fun σ F H ok env Q q =>
  w σ F H ok env _ fun ps Θ1 ⟨hl, p, tr, k⟩ vs F1 H1 s1 ok1 hps => ⟨small_len hps hl, fun a na => (q.mono s1).new k ok1 na (tr _ a vs upd_same (ps_mono (ok1.sameF na) hps))⟩
theorem tr2 {α β : Type} {r : Rep α} {s : Rep β} {x : α} {y : β} : TupR [iz r x, iz s y] (iz (z2 r s) (x, y)) := fun F a vs h hp => by
  cases hp with
  | cons h1 hp => cases hp with
    | cons h2 hp => cases hp with
      | nil => exact ⟨a, _, _, rfl, h, h1, h2⟩
theorem tr3 {α β γ : Type} {r : Rep α} {s : Rep β} {t : Rep γ} {x : α} {y : β} {z : γ} : TupR [iz r x, iz s y, iz t z] (iz (z3 r s t) (x, y, z)) := fun F a vs h hp => by
  cases hp with
  | cons h1 hp => cases hp with
    | cons h2 hp => cases hp with
      | cons h3 hp => cases hp with
        | nil => exact ⟨a, _, _, _, rfl, h, h1, h2, h3⟩
theorem pvs_map {α : Type} {r : Rep α} {vs : List V} : ∀ {xs : List α}, Paired (fun (p : Vp) v => p.p F v) (xs.map (iz r)) vs → PVs r F vs xs := fun {xs} h => by
  induction xs generalizing vs with
  | nil => cases h; exact .nil
  | cons x xs ih => cases h with
    | cons a b => exact .cons a (ih b)
/-- a list, frozen -/
theorem we_lst {α : Type} {r : Rep α} {t : TA} (w : Wa fr Γ Θ t fun ps Θ1 => ∃ xs : List α, ps = xs.map (iz r) ∧ ps.length ≤ 1000 ∧ K (iz (zL r) xs) Θ1) : We fr Γ Θ (tLst t) K := fun σ F H ok env Q q =>
  w σ F H ok env _ fun ps Θ1 ⟨xs, e, hl, k⟩ vs F1 H1 s1 ok1 hps => ⟨small_len hps hl, fun a na => by
    subst e
    exact (q.mono s1).new k ok1 na ⟨a, vs, rfl, upd_same, pvs_map (ps_mono (ok1.sameF na) hps)⟩⟩
/-- a list, one's own -/
theorem we_own {α : Type} (r : Rep α) {t : TA} (w : Wa fr Γ Θ t fun ps Θ1 => ∃ xs : List α, ps = xs.map (iz r) ∧ ps.length ≤ 1000 ∧ ∀ a, K (zAt a) (cL a r xs :: Θ1)) : We fr Γ Θ (tLst t) K := fun σ F H ok env Q q =>
  w σ F H ok env _ fun ps Θ1 ⟨xs, e, hl, k⟩ vs F1 H1 s1 ok1 hps => ⟨small_len hps hl, fun a na => by
    subst e
    exact q _ _ (k a) _ F1 _ s1 (ok1.mkOwn (c := cL a r xs) na rfl ⟨vs, rfl, pvs_map hps⟩) rfl⟩
theorem cb_len {Kf : PySem.W.Frag} {α : Type} {r : Rep α} {xs : List α} {p : Vp} (h : SeqP fr Θ p r xs) (k : K (iz zI xs.length) Θ) : Cbs fr Θ (rLenQ Kf) [p] K := fun F H vs ok hps Q q => by
  cases hps with
  | cons h1 hp => cases hp with
    | nil =>
      obtain ⟨a, us, rfl, h2, h3⟩ := h F H _ ok h1
      refine ⟨a, us, rfl, sq_or h2, ?_⟩
      rw [Paired.len h3]
      exact q.go k ok rfl
theorem cb_lenS {z : Str} (hl : z.length ≤ sizeLine) (k : K (iz zI z.length) Θ) : Cbs fr Θ (fun xs H Q => ∃ z, xs = [.str z] ∧ z.length ≤ sizeLine ∧ Q (.int z.length) H) [iz zS z] K := fun F H vs ok hps Q q => by
  cases hps with
  | cons h1 hp => cases hp with
    | nil => exact ⟨z, by rw [h1.1], hl, q.go k ok rfl⟩
theorem cb_list {Kf : PySem.W.Frag} {α : Type} {r : Rep α} {xs : List α} {p : Vp} (h : SeqP fr Θ p r xs) (k : K (iz (zL r) xs) Θ) : Cbs fr Θ (rListQ Kf) [p] K := fun F H vs ok hps Q q => by
  cases hps with
  | cons h1 hp => cases hp with
    | nil =>
      obtain ⟨a, us, rfl, h2, h3⟩ := h F H _ ok h1
      exact ⟨a, us, rfl, sq_or h2, fun l nl => q.new k ok nl ⟨l, us, rfl, upd_same, Paired.imp2 (fun _ _ h => r.mono (ok.sameF nl) h) h3⟩⟩
theorem cb_tuple {Kf : PySem.W.Frag} {α : Type} [TNar α] {r : Rep α} {xs : List α} {p : Vp} (h : ∀ F H v, OkF fr Θ F H → p.p F v → ∃ a vs, v = .ref a ∧ (H a = some (.lst vs) ∨ TupB (TNar.nar xs) F a vs) ∧ PVs r F vs xs) (k : K (iz (zT r) xs) Θ) : Cbs fr Θ (rTupQ Kf) [p] K := fun F H vs ok hps Q q => by
  cases hps with
  | cons h1 hp => cases hp with
    | nil =>
      obtain ⟨a, us, rfl, h2, h3⟩ := h F H _ ok h1
      refine ⟨a, us, rfl, ?_⟩
      rcases h2 with h2 | h2
      · exact .inl ⟨SqL.of h2, fun l nl => q.new k ok nl ⟨l, us, rfl, .inl upd_same, Paired.imp2 (fun _ _ h => r.mono (ok.sameF nl) h) h3⟩⟩
      · exact .inr ⟨h2.sq ok.fh, q.go k ok ⟨a, us, rfl, h2, h3⟩⟩
theorem cb_tupleL {Kf : PySem.W.Frag} {α : Type} [TNar α] {r : Rep α} {xs : List α} (k : K (iz (zT r) xs) Θ) : Cbs fr Θ (rTupQ Kf) [iz (zL r) xs] K := cb_tuple (fun F H v ok ⟨a, vs, h1, h2, h3⟩ => ⟨a, vs, h1, .inl (ok.fh _ _ h2), h3⟩) k
theorem le_KT {xs : List Str} : ∀ F v, (iz zK xs).p F v → (iz (zT zS) xs).p F v := fun F v ⟨a, vs, h1, h2, h3⟩ => ⟨a, vs, h1, h2.tb, h3⟩
theorem cb_tupleLN {Kf : PySem.W.Frag} {α : Type} {r : Rep α} {xs : List α} (k : K (iz (zN r) xs) Θ) : Cbs fr Θ (rTupQ Kf) [iz (zL r) xs] K := fun F H vs ok hps Q q => by
  cases hps with
  | cons h1 hp => cases hp with
    | nil =>
      obtain ⟨a, us, rfl, h2, h3⟩ := h1
      exact ⟨a, us, rfl, .inl ⟨SqL.of (ok.fh _ _ h2), fun l nl => q.new k ok nl ⟨l, us, rfl, upd_same, Paired.imp2 (fun _ _ h => r.mono (ok.sameF nl) h) h3⟩⟩⟩
/-- tuple(l): the new place is bare -/
def rTupX (K : PySem.W.Frag) : List V → Hp → VK → Prop := fun xs H Q => ∃ p ys, xs = [.ref p] ∧ SqL K H p ys ∧ ∀ l, H l = none → ∀ o : Obj, o.cls = .type "tuple" → o.dict = none → Q (.ref l) (upd H l (if ys.isEmpty = true then .tup ys else .frz o (.tup ys)))
theorem call_tupleX {X : Cx} : CallR X (.type "tuple") (rTupX X.K) := by
  intro pins s σ H xs us Q I r h
  obtain ⟨p, ys, rfl, hq, q⟩ := h
  obtain ⟨u, rfl, rx⟩ := vals1 r
  cases rx
  obtain ⟨its, r', pl, hz⟩ := I.list hq
  have hlen := r'.length
  refine call_tuple_list pl.isList (fun h' kp => ?_) (by simp only [List.size_toArray] <;> omega)
  have I1 : Inv X pins σ H { s with heap := h' } := I.kept (t' := s.toks) kp
  have q := q h'.objs.size (I1.hok.fresh (Nat.le_refl _)) { cls := .type "tuple", data := .seq its.toArray } rfl rfl
  have I2 : Inv X pins σ (upd H h'.objs.size (if ys.isEmpty = true then .tup ys else .frz { cls := .type "tuple", data := .seq its.toArray } (.tup ys))) { s with heap := h'.push { cls := .type "tuple", data := .seq its.toArray } } := by
    refine I1.laid (t' := s.toks) (fun b o e => Heap.get?_push_of_some _ e) (Nat.le_refl _) ?_
    by_cases e : ys.isEmpty = true
    · rw [if_pos e]
      exact (show ObjOk X.prog X.w _ _ _ (.tup ys) from ⟨hz, its, r', IsTup.new _ _⟩)
    · rw [if_neg e]
      exact (show ObjOk X.prog X.w _ _ _ (.frz _ (.tup ys)) from ⟨Heap.get?_push_size _ (by rfl), hz, its, r', IsTup.new _ _⟩)
  exact ⟨.ref h'.objs.size, _, I2, rfl, q⟩
theorem kcall_tupleX {X : Cx} {K : PySem.W.Frag} (h : X.K = K := by rfl) : CallR X (.type "tuple") (rTupX K) := h ▸ call_tupleX
theorem cb_tupleX {Kf : PySem.W.Frag} {xs : List Str} {a : Addr} (hc : cL a zS xs ∈ Θ) (k : K (iz zK xs) Θ) : Cbs fr Θ (rTupX Kf) [zAt a] K := fun F H vs ok hps Q q => by
  cases hps with
  | cons h1 hp => cases hp with
    | nil =>
      have h1 : _ = V.ref a := h1
      subst h1
      obtain ⟨_, ⟨o, h2, us, rfl, h4⟩, _⟩ := ok.ce _ hc
      refine ⟨a, us, rfl, SqL.of h2, fun l nl o oc od => q.new k ok nl ⟨l, us, rfl, ?_, Paired.imp2 (fun _ _ h => zS.mono (ok.sameF nl) h) h4⟩⟩
      cases h4 with
      | nil => exact .inl ⟨rfl, by rw [upd_same]; rfl⟩
      | cons b c => exact .inr ⟨rfl, o, by rw [upd_same]; rfl, oc, od⟩
theorem cb_tupleT {Kf : PySem.W.Frag} {α : Type} [TNar α] {r : Rep α} {xs : List α} (k : K (iz (zT r) xs) Θ) : Cbs fr Θ (rTupQ Kf) [iz (zT r) xs] K := cb_tuple (fun F H v ok ⟨a, vs, h1, h2, h3⟩ => ⟨a, vs, h1, .inr h2, h3⟩) k
theorem cb_tupleC {Kf : PySem.W.Frag} {α : Type} [TNar α] {r : Rep α} {xs : List α} {a : Addr} (hc : cL a r xs ∈ Θ) (k : K (iz (zT r) xs) Θ) : Cbs fr Θ (rTupQ Kf) [zAt a] K := cb_tuple (fun F H v ok hv => by
  obtain ⟨_, ⟨o, h2, vs, rfl, h4⟩, _⟩ := ok.ce _ hc
  exact ⟨a, vs, hv, .inl h2, h4⟩) k
theorem cb_any {Kf : PySem.W.Frag} {xs : List Bool} (k : K (iz zB (xs.any id)) Θ) : Cbs fr Θ (rAny Kf) [iz (zL zB) xs] K := fun F H vs ok hps Q q => by
  cases hps with
  | cons h1 hp => cases hp with
    | nil =>
      obtain ⟨a, us, rfl, h2, h3⟩ := h1
      have := pvs_B h3
      subst this
      exact ⟨a, xs, rfl, SqL.of (ok.fh _ _ h2), q.go k ok rfl⟩
theorem cb_all {Kf : PySem.W.Frag} {xs : List Bool} (k : K (iz zB (xs.all id)) Θ) : Cbs fr Θ (rAll Kf) [iz (zL zB) xs] K := fun F H vs ok hps Q q => by
  cases hps with
  | cons h1 hp => cases hp with
    | nil =>
      obtain ⟨a, us, rfl, h2, h3⟩ := h1
      have := pvs_B h3
      subst this
      exact ⟨a, xs, rfl, SqL.of (ok.fh _ _ h2), q.go k ok rfl⟩
theorem cb_sum {Kf : PySem.W.Frag} {xs : List Int} (k : K (iz zI xs.sum) Θ) : Cbs fr Θ (rSum Kf) [iz (zL zI) xs] K := fun F H vs ok hps Q q => by
  cases hps with
  | cons h1 hp => cases hp with
    | nil =>
      obtain ⟨a, us, rfl, h2, h3⟩ := h1
      have := pvs_I h3
      subst this
      exact ⟨a, xs, rfl, SqL.of (ok.fh _ _ h2), q.go k ok rfl⟩
theorem cb_int {n : Int} (k : K (iz zI n) Θ) : Cbs fr Θ (fun xs H Q => (∃ i, xs = [.int i] ∧ Q (.int i) H) ∨ ∃ k, xs = [.bl k] ∧ Q (.int (if k then 1 else 0)) H) [iz zI n] K := fun F H vs ok hps Q q => by
  cases hps with
  | cons h1 hp => cases hp with
    | nil =>
      have h1 : _ = V.int n := h1
      subst h1
      exact .inl ⟨n, rfl, q.go k ok rfl⟩
theorem cb_abs {n : Int} (k : K (iz zI (if n < 0 then -n else n)) Θ) : Cbs fr Θ (fun xs H Q => ∃ i, xs = [.int i] ∧ Q (.int (if i < 0 then -i else i)) H) [iz zI n] K := fun F H vs ok hps Q q => by
  cases hps with
  | cons h1 hp => cases hp with
    | nil =>
      have h1 : _ = V.int n := h1
      subst h1
      exact ⟨n, rfl, q.go k ok rfl⟩
def cutX {α : Type} (xs : List α) (lo hi : Option Int) : List α := (xs.drop (HT.sIx xs.length 0 lo)).take (HT.sIx xs.length xs.length hi - HT.sIx xs.length 0 lo)
theorem pvs_cut {α : Type} {r : Rep α} {vs : List V} {xs : List α} {lo hi : Option Int} (h : PVs r F vs xs) : PVs r F (cutV vs lo hi) (cutX xs lo hi) := by
  unfold cutV cutX
  rw [Paired.len h]
  exact Paired.take _ (Paired.drop _ h)
theorem sls_L {Kf : PySem.W.Frag} {α : Type} {r : Rep α} {xs : List α} {lo hi : Option Int} (k : K (iz (zL r) (cutX xs lo hi)) Θ) : Sls fr Θ (rSlL Kf) (iz (zL r) xs) lo hi K := fun F H v ok hv Q q => by
  obtain ⟨a, vs, rfl, h2, h3⟩ := hv
  exact ⟨a, vs, rfl, SqL.of (ok.fh _ _ h2), fun l nl => q.new k ok nl ⟨l, _, rfl, upd_same, Paired.imp2 (fun _ _ h => r.mono (ok.sameF nl) h) (pvs_cut h3)⟩⟩
theorem ops_cat {α : Type} {r : Rep α} {xs ys : List α} (hl : xs.length + ys.length ≤ sizeLine) (k : K (iz (zL r) (xs ++ ys)) Θ) : Ops fr Θ rCat (iz (zL r) xs) (iz (zL r) ys) K := fun F H v w ok hv hw Q q => by
  obtain ⟨a, vs, rfl, h2, h3⟩ := hv
  obtain ⟨b, us, rfl, h4, h5⟩ := hw
  exact ⟨a, b, vs, us, rfl, rfl, ok.fh _ _ h2, ok.fh _ _ h4, by rw [Paired.len h3, Paired.len h5]; exact hl, fun l nl => q.new k ok nl ⟨l, _, rfl, upd_same, Paired.imp2 (fun _ _ h => r.mono (ok.sameF nl) h) (Paired.app h3 h5)⟩⟩
def Newer (F H F' : Hp) : Prop := ∀ a o, F' a = some o → Nwr F H a o
theorem Newer.refl (F H : Hp) : Newer F H F := fun _ o h => .inl ⟨o, h⟩
/-- the iterator J gives the things its, as long as F stands -/
def JOk (J : It) (F : Hp) (its : List Vp) : Prop := ∀ F1 H1, Same F F1 → Same F1 H1 → (∀ i p, its[i]? = some p → J.go i H1 ∧ ∀ x H2, J.yld i H1 x H2 → ∃ F2, Same F1 F2 ∧ Same H1 H2 ∧ Same F2 H2 ∧ Newer F1 H1 F2 ∧ p.p F2 x) ∧ J.stop its.length H1
def Wi (fr : Fr) (Γ : Gam) (Θ : List Cel) (wi : TI) (K : List Vp → List Cel → Prop) : Prop := ∀ σ F H, OkF fr Θ F H → EnvF Γ σ F → ∀ R : It → Hp → Prop, (∀ its Θ', K its Θ' → ∀ J F' H', Same F F' → OkF fr Θ' F' H' → JOk J F' its → R J H') → wi σ H R
theorem get_izs {α : Type} {r : Rep α} {xs : List α} {i : Nat} {p : Vp} (h : (xs.map (iz r))[i]? = some p) : ∃ x, xs[i]? = some x ∧ p = iz r x := by
  rw [List.getElem?_map] at h
  obtain ⟨x, hx, e⟩ := Option.map_eq_some_iff.mp h
  exact ⟨x, hx, e.symm⟩
theorem wi_list {Kf : PySem.W.Frag} {tl : TE} {K : List Vp → List Cel → Prop} (w : We fr Γ Θ tl fun p Θ1 => ∃ (α : Type) (r : Rep α) (xs : List α), p = iz (zL r) xs ∧ K (xs.map (iz r)) Θ1) : Wi fr Γ Θ (iList Kf tl) K := fun σ F H ok env R q =>
  w σ F H ok env _ fun p Θ1 ⟨α, r, xs, e, k⟩ v F1 H1 s1 ok1 hp => by
    subst e
    obtain ⟨a, vs, rfl, h2, h3⟩ := hp
    refine ⟨a, rfl, ⟨_, SqL.of (ok1.fh _ _ h2)⟩, q _ Θ1 k _ F1 H1 s1 ok1 fun F2 H2 s2 fh => ⟨fun i p hi => ?_, ?_⟩⟩
    · obtain ⟨x, hx, rfl⟩ := get_izs hi
      obtain ⟨u, hu, hux⟩ := Paired.get' h3 hx
      have sq : SqL Kf H2 a vs := SqL.of (fh _ _ (s2 _ _ h2))
      refine ⟨⟨vs, u, sq, hu⟩, fun y H3 ⟨e, hy⟩ => ?_⟩
      subst e
      have hy := hy vs sq
      rw [hu] at hy
      cases hy
      exact ⟨F2, Same.refl _, Same.refl _, fh, Newer.refl _ _, r.mono s2 hux⟩
    · rw [List.length_map, ← Paired.len h3]
      exact ⟨vs, SqL.of (fh _ _ (s2 _ _ h2)), Nat.le_refl _⟩
theorem wi_tup {Kf : PySem.W.Frag} {tl : TE} {K : List Vp → List Cel → Prop} (w : We fr Γ Θ tl fun p Θ1 => ∃ (α : Type) (_ : TNar α) (r : Rep α) (xs : List α), p = iz (zT r) xs ∧ K (xs.map (iz r)) Θ1) : Wi fr Γ Θ (iTup Kf tl) K := fun σ F H ok env R q =>
  w σ F H ok env _ fun p Θ1 ⟨α, _, r, xs, e, k⟩ v F1 H1 s1 ok1 hp => by
    subst e
    obtain ⟨a, vs, rfl, h2, h3⟩ := hp
    refine ⟨a, rfl, ⟨_, h2.sq ok1.fh⟩, q _ Θ1 k _ F1 H1 s1 ok1 fun F2 H2 s2 fh => ⟨fun i p hi => ?_, ?_⟩⟩
    · obtain ⟨x, hx, rfl⟩ := get_izs hi
      obtain ⟨u, hu, hux⟩ := Paired.get' h3 hx
      have sq : SqT Kf H2 a vs := (h2.mono s2).sq fh
      refine ⟨⟨vs, u, sq, hu⟩, fun y H3 ⟨e, hy⟩ => ?_⟩
      subst e
      have hy := hy vs sq
      rw [hu] at hy
      cases hy
      exact ⟨F2, Same.refl _, Same.refl _, fh, Newer.refl _ _, r.mono s2 hux⟩
    · rw [List.length_map, ← Paired.len h3]
      exact ⟨vs, (h2.mono s2).sq fh, Nat.le_refl _⟩
def intsF (lo : Int) (n : Nat) : List Int := (List.range n).map fun i : Nat => lo + (i : Int)
theorem intsF_get {lo : Int} {n i : Nat} {x : Int} (h : (intsF lo n)[i]? = some x) : i < n ∧ x = lo + i := by
  unfold intsF at h
  rw [List.getElem?_map] at h
  obtain ⟨j, hj, e⟩ := Option.map_eq_some_iff.mp h
  rcases Nat.lt_or_ge i n with h | h
  · rw [List.getElem?_range h] at hj
    cases hj
    exact ⟨h, e.symm⟩
  · rw [List.getElem?_eq_none (by rw [List.length_range]; exact h)] at hj
    cases hj
theorem intsF_len (lo : Int) (n : Nat) : (intsF lo n).length = n := by
  unfold intsF
  rw [List.length_map, List.length_range]
theorem jok_r (lo : Int) (n : Nat) : JOk (Itr lo n) F ((intsF lo n).map (iz zI)) := fun F2 H2 s2 fh => ⟨fun i p hi => by
    obtain ⟨x, hx, rfl⟩ := get_izs hi
    obtain ⟨h1, rfl⟩ := intsF_get hx
    exact ⟨h1, fun y H3 ⟨e, hy⟩ => by
      subst e
      exact ⟨F2, Same.refl _, Same.refl _, fh, Newer.refl _ _, hy⟩⟩, by
    rw [List.length_map, intsF_len]
    exact Nat.le_refl _⟩
theorem wi_range {ta : TA} {K : List Vp → List Cel → Prop} (w : Wa fr Γ Θ ta fun ps Θ1 => ∃ n : Int, ps = [iz zI n] ∧ -(2 ^ 62) ≤ n ∧ n < 2 ^ 62 ∧ K ((intsF 0 n.toNat).map (iz zI)) Θ1) : Wi fr Γ Θ (iRng1 ta) K := fun σ F H ok env R q =>
  w σ F H ok env _ fun ps Θ1 ⟨n, e, b1, b2, k⟩ vs F1 H1 s1 ok1 hps => by
    subst e
    cases hps with
    | cons h1 hp => cases hp with
      | nil =>
        have h1 : _ = V.int n := h1
        subst h1
        exact ⟨n, rfl, b1, b2, q _ Θ1 k _ F1 H1 s1 ok1 (jok_r 0 n.toNat)⟩
theorem wi_range2 {ta : TA} {K : List Vp → List Cel → Prop} (w : Wa fr Γ Θ ta fun ps Θ1 => ∃ m n : Int, ps = [iz zI m, iz zI n] ∧ (-(2 ^ 62) ≤ m ∧ m < 2 ^ 62 ∧ -(2 ^ 62) ≤ n ∧ n < 2 ^ 62) ∧ K ((intsF m (n - m).toNat).map (iz zI)) Θ1) : Wi fr Γ Θ (iRng2 ta) K := fun σ F H ok env R q =>
  w σ F H ok env _ fun ps Θ1 ⟨m, n, e, b, k⟩ vs F1 H1 s1 ok1 hps => by
    subst e
    cases hps with
    | cons h1 hp => cases hp with
      | cons h2 hp => cases hp with
        | nil =>
          have h1 : _ = V.int m := h1
          have h2 : _ = V.int n := h2
          subst h1 h2
          exact ⟨m, n, rfl, b, q _ Θ1 k _ F1 H1 s1 ok1 (jok_r m _)⟩
/-- a finer start: more is frozen -/
structure FrLe (fr fr' : Fr) : Prop where
  h : fr'.H0 = fr.H0
  b : fr'.B = fr.B
  f : Same fr.F0 fr'.F0
  n : ∀ a o, fr'.F0 a = some o → Nwr fr.F0 fr.H0 a o
theorem OkF.le {fr' : Fr} (ok : OkF fr' Θ F H) (l : FrLe fr fr') : OkF fr Θ F H := by
  obtain ⟨a1, a2, a3, a4⟩ := l
  refine ⟨ok.fh, a3.trans ok.f0, fun a o h => ?_, fun a o hB h => ok.h0 a o (by rw [a2]; exact hB) (by rw [a1]; exact h), fun a o h => ok.al a o (by rw [a1]; exact h), ok.nd, fun c hc => ?_⟩
  · rcases ok.nw a o h with ⟨o', h'⟩ | h' | h'
    · have e := ok.f0 a o' h'
      rw [h] at e
      cases e
      exact a4 a o h'
    · exact .inr (.inl (by rw [a1] at h'; exact h'))
    · exact .inr (.inr h')
  · have := ok.ce c hc
    rw [a1, a2] at this
    exact this
theorem OkF.fine {F1 H1 : Hp} {Θ1 : List Cel} (ok1 : OkF fr Θ1 F1 H1) : FrLe fr ⟨F1, fr.H0, fr.B⟩ := ⟨rfl, rfl, ok1.f0, ok1.nw⟩
theorem FrLe.trans {fr1 fr2 : Fr} (x : FrLe fr fr1) (y : FrLe fr1 fr2) : FrLe fr fr2 := ⟨y.h.trans x.h, y.b.trans x.b, x.f.trans y.f, fun a o h => (y.n a o h).elim (fun ⟨o', h'⟩ => by
  have e := y.f a o' h'
  rw [h] at e
  cases e
  exact x.n a o h') fun h' => h'.elim (fun h' => .inr (.inl (by rw [x.h] at h'; exact h'))) fun h' => .inr (.inr h')⟩
theorem Kn.fine {fr' : Fr} {P : L2.St → Hp → Prop} (k : Kn fr Γ Θ P) (l : FrLe fr fr') : Kn fr' Γ Θ P := fun σ F H ok env => k σ F H (ok.le l) env
theorem Rt.fine {fr' : Fr} {rt : VK} {p : Vp} (k : Rt fr Θ rt p) (l : FrLe fr fr') : Rt fr' Θ rt p := fun v F H ok h => k v F H (ok.le l) h
theorem kn_for {wi : TI} {g : TG} {tb : TS} {D : Ends} (w : Wi fr Γ Θ wi fun its Θ1 => ∃ I : Nat → Gam → List Cel → Prop, (∃ Γ0, GLe Γ Γ0 ∧ I 0 Γ0 Θ1) ∧
    (∀ fr', FrLe fr fr' → ∀ i p Γ1 Θ2, its[i]? = some p → I i Γ1 Θ2 → ∃ vs Γ2, TgR g vs p Γ1 Γ2 ∧ Kn fr' Γ2 Θ2 (tb { D with nx := Mid fr' (I (i + 1)), ct := Mid fr' (I (i + 1)), bk := D.nx })) ∧ ∀ Γ1 Θ2, I its.length Γ1 Θ2 → Kn fr Γ1 Θ2 D.nx) : Kn fr Γ Θ (tFor wi g tb D) := fun σ F H ok env =>
  w σ F H ok env _ fun its Θ1 ⟨I, ⟨Γ0, l0, i0⟩, hs, hd⟩ J F1 H1 s1 ok1 jok => by
    have le := ok1.fine
    have up : ∀ {Θ2 : List Cel} {F2 H2 : Hp}, OkF fr Θ2 F2 H2 → Same F1 F2 → OkF ⟨F1, fr.H0, fr.B⟩ Θ2 F2 H2 := fun ok s => ⟨ok.fh, s, fun a o h => (ok.nw a o h).elim (fun ⟨o', h'⟩ => .inl ⟨o', ok1.f0 _ _ h'⟩) .inr, ok.h0, ok.al, ok.nd, ok.ce⟩
    refine ⟨fun i m σ' H' => m = its.length - i ∧ i ≤ its.length ∧ Mid ⟨F1, fr.H0, fr.B⟩ (I i) σ' H', ⟨its.length, by simp, Nat.zero_le _, Γ0, Θ1, F1, i0, up ok1 (Same.refl _), (env.mono s1).le l0⟩, ?_⟩
    rintro i m σ' H' ⟨rfl, hi, Γ2, Θ2, F2, hI, ok2, env2⟩
    obtain ⟨j1, j2⟩ := jok F2 H' ok2.f0 ok2.fh
    by_cases hlt : i < its.length
    · obtain ⟨jg, jy⟩ := j1 i its[i] (List.getElem?_eq_getElem hlt)
      refine .inr ⟨jg, Mid ⟨F1, fr.H0, fr.B⟩ (I (i + 1)), fun σ3 H3 p => ⟨its.length - (i + 1), by omega, rfl, hlt, p⟩, fun x H3 y => ?_⟩
      obtain ⟨F3, e1, e2, e3, e4, e5⟩ := jy x H3 y
      have ok3 := ok2.grow e2 e1 e3 e4
      obtain ⟨vs, Γ4, tg, kn⟩ := hs _ le i _ Γ2 Θ2 (List.getElem?_eq_getElem hlt) hI
      exact tg σ' F3 H3 x ok3.fh (env2.mono e1) e5 _ fun σ4 env4 _ => kn σ4 F3 H3 ok3 env4
    · have e : i = its.length := by omega
      subst e
      exact .inl ⟨j2, hd Γ2 Θ2 hI σ' F2 H' (ok2.le le) env2⟩
/-- an invariant by a state s: the names hold G s, the cells T s -/
def InvS {S : Type} (G : S → Gam) (T : S → List Cel) (P : Nat → S → Prop) (i : Nat) (Γ : Gam) (Θ : List Cel) : Prop := ∃ s, P i s ∧ Γ = G s ∧ Θ = T s
theorem kn_back {S : Type} {G : S → Gam} {T : S → List Cel} {P : Nat → S → Prop} {i : Nat} (s : S) (l : GLe Γ (G s)) (h : P i s) (e : Θ = T s) : Kn fr Γ Θ (Mid fr (InvS G T P i)) := kn_mid ⟨G s, l, s, h, rfl, e⟩
/-- for x in a walked thing, the entries xs known -/
theorem kn_forS {α S : Type} {r : Rep α} {xs : List α} {wi : TI} {g : TG} {tb : TS} {D : Ends} (G : S → Gam) (T : S → List Cel) (P : Nat → S → Prop) (s0 : S) {vs : List Nat} {Γ2 : α → S → Gam} (it : Wi fr Γ Θ wi fun its Θ1 => its = xs.map (iz r) ∧ Θ1 = T s0) (l0 : GLe Γ (G s0)) (h0 : P 0 s0)
    (tg : ∀ x s, TgR g vs (iz r x) (G s) (Γ2 x s))
    (hs : ∀ fr', FrLe fr fr' → ∀ i x s, xs[i]? = some x → P i s → Kn fr' (Γ2 x s) (T s) (tb { D with nx := Mid fr' (InvS G T P (i + 1)), ct := Mid fr' (InvS G T P (i + 1)), bk := D.nx }))
    (hd : ∀ s, P xs.length s → Kn fr (G s) (T s) D.nx) : Kn fr Γ Θ (tFor wi g tb D) := by
  refine kn_for fun σ F H ok env R q => it σ F H ok env R fun its Θ1 ⟨e1, e2⟩ => q its Θ1 ?_
  subst e1 e2
  refine ⟨InvS G T P, ⟨G s0, l0, s0, h0, rfl, rfl⟩, fun fr' le i p Γ1 Θ2 hi ⟨s, hP, eg, et⟩ => ?_, fun Γ1 Θ2 ⟨s, hP, eg, et⟩ => ?_⟩
  · subst eg et
    obtain ⟨x, hx, rfl⟩ := get_izs hi
    exact ⟨vs, _, tg x s, hs fr' le i x s hx hP⟩
  · subst eg et
    rw [List.length_map] at hP
    exact hd s hP
def wipeG (Γ : Gam) : List Nat → Gam
  | [] => Γ
  | v :: vs => (wipeG Γ vs).set v none
theorem EnvF.wipe {σ : L2.St} (h : EnvF Γ σ F) : ∀ vs, EnvF (wipeG Γ vs) (L2.wipe σ vs) F
  | [] => h
  | v :: vs => (EnvF.wipe h vs).drop
theorem wipe_get (σ : L2.St) (j : Nat) : ∀ vs : List Nat, (L2.wipe σ vs)[j]? = if j ∈ vs ∧ j < σ.length then some none else σ[j]?
  | [] => by simp [L2.wipe]
  | v :: vs => by
    unfold L2.wipe
    rw [List.getElem?_set, wipe_get σ j vs, wipe_length]
    by_cases h : v = j
    · subst h
      by_cases h2 : v < σ.length
      · rw [if_pos rfl, if_pos h2, if_pos ⟨List.mem_cons_self .., h2⟩]
      · rw [if_pos rfl, if_neg h2, if_neg (fun q => h2 q.2), List.getElem?_eq_none (by omega)]
    · rw [if_neg h]
      by_cases h2 : j ∈ vs ∧ j < σ.length
      · rw [if_pos h2, if_pos ⟨List.mem_cons_of_mem _ h2.1, h2.2⟩]
      · rw [if_neg h2, if_neg (fun q => h2 ⟨(List.mem_cons.mp q.1).resolve_left (fun e => h e.symm), q.2⟩)]
theorem wipe_idem (σ : L2.St) (vs : List Nat) : L2.wipe (L2.wipe σ vs) vs = L2.wipe σ vs := by
  apply List.ext_getElem?
  intro j
  rw [wipe_get, wipe_length, wipe_get]
  split <;> rfl
/-- [e for x in xs if c]: each entry is found by its own way; R says what it may be -/
theorem we_lcR {α β : Type} {r : Rep α} {s : Rep β} {xs : List α} {pr : α → Bool} {R : α → β → Prop} {wi : TI} {g : TG} {tt : TT} {te : TE} {vs : List Nat} {Γ2 : α → Gam}
    (it : Wi fr Γ Θ wi fun its Θ1 => its = xs.map (iz r) ∧ Θ1 = Θ) (hl : xs.length ≤ 1000) (tg : ∀ x, TgR g vs (iz r x) (wipeG Γ vs) (Γ2 x)) (ht : ∀ x ∈ xs, ∀ c, Et fr (Γ2 x) (c :: Θ) tt (pr x))
    (he : ∀ x ∈ xs, pr x = true → ∀ c, We fr (Γ2 x) (c :: Θ) te fun q Θ' => Θ' = c :: Θ ∧ ∃ y, R x y ∧ q = iz s y) (k : ∀ ys, Paired R (xs.filter pr) ys → K (iz (zL s) ys) Θ) : We fr Γ Θ (tLc wi g tt te vs) K := fun σ F H ok env Q q => by
  refine it σ F H ok env _ fun its Θ1 ⟨e1, e2⟩ J F1 H1 s1 ok1 jok => ?_
  subst e1 e2
  intro D nD
  refine ⟨fun i m H' => m = xs.length - i ∧ i ≤ xs.length ∧ ∃ F2 ys, Same F1 F2 ∧ OkF fr (cL D s ys :: Θ1) F2 H' ∧ Paired R ((xs.take i).filter pr) ys, ⟨xs.length, by simp, Nat.zero_le _, F1, [], Same.refl _, ok1.mkOwn (c := cL D s []) nD rfl ⟨[], rfl, .nil⟩, .nil⟩, ?_⟩
  rintro i m H' ⟨rfl, hi, F2, ys, s2, ok2, py⟩
  obtain ⟨j1, j2⟩ := jok F2 H' s2 ok2.fh
  by_cases hlt : i < xs.length
  · have hx : xs[i]? = some xs[i] := List.getElem?_eq_getElem hlt
    generalize xs[i] = x at hx
    have hm := List.mem_of_getElem? hx
    obtain ⟨jg, jy⟩ := j1 i (iz r x) (by rw [List.getElem?_map, hx]; rfl)
    refine .inr ⟨jg, fun H3 => ∃ F3 ys, Same F1 F3 ∧ OkF fr (cL D s ys :: Θ1) F3 H3 ∧ Paired R ((xs.take (i + 1)).filter pr) ys, fun H3 p => ⟨xs.length - (i + 1), by omega, rfl, hlt, p⟩, fun v H3 y => ?_⟩
    obtain ⟨F3, e1, e2, e3, e4, e5⟩ := jy v H3 y
    have ok3 := ok2.grow e2 e1 e3 e4
    have s3 := s2.trans e1
    refine tg x (L2.wipe σ vs) F3 H3 v ok3.fh ((env.mono (s1.trans s3)).wipe vs) e5 _ fun σ2 env2 hw => ⟨?_, ?_⟩
    · rw [hw, wipe_idem]
    · have et : (xs.take (i + 1)).filter pr = (xs.take i).filter pr ++ if pr x = true then [x] else [] := by
        rw [take_more hx, List.filter_append, List.filter_cons]
        rfl
      refine ht x hm _ σ2 F3 H3 ok3 env2 _ fun b Θ2 ⟨e6, e7⟩ F4 H4 s4 ok4 => ?_
      subst e6 e7
      by_cases hb : pr x = true
      · rw [if_pos hb]
        rw [if_pos hb] at et
        refine he x hm hb _ σ2 F4 H4 ok4 (env2.mono s4) _ fun p Θ3 ⟨e8, y, hR, e9⟩ u F5 H5 s5 ok5 hp => ?_
        subst e8 e9
        obtain ⟨_, ⟨o, h2, acc, rfl, h4⟩, _⟩ := ok5.ce _ (List.mem_cons_self ..)
        have ok6 := ok5.mut (i := 0) (c := cL D s ys) (c' := cL D s (ys ++ [y])) (o := .lst (acc ++ [u])) rfl rfl rfl ⟨_, rfl, PySem.Paired.snoc h4 hp⟩
        refine ⟨acc, h2, ?_, F5, ys ++ [y], (s3.trans s4).trans s5, ok6, ?_⟩
        · rw [Paired.len h4, ← Paired.len py]
          have := List.length_filter_le pr (xs.take i)
          rw [List.length_take] at this
          exact small1000 (by omega)
        · rw [et]
          exact PySem.Paired.snoc py hR
      · rw [if_neg hb]
        rw [if_neg hb, List.append_nil] at et
        exact ⟨F4, ys, s3.trans s4, ok4, by rw [et]; exact py⟩
  · have e : i = xs.length := by omega
    subst e
    rw [List.take_length] at py
    obtain ⟨_, ⟨o, h2, acc, rfl, h4⟩, _⟩ := ok2.ce _ (List.mem_cons_self ..)
    have ok3 := ok2.frz (i := 0) (c := cL D s ys) rfl rfl h2
    have sD : Same F2 (upd F2 D (.lst acc)) := same_upd (ok2.ce _ (List.mem_cons_self ..)).1
    refine .inl ⟨by rw [List.length_map] at j2; exact j2, q _ _ (k ys py) _ _ H' ((s1.trans s2).trans sD) ok3 ⟨D, acc, rfl, upd_same, Paired.imp2 (fun _ _ h => s.mono sD h) h4⟩⟩
theorem paired_map {α β : Type} {f : α → β} : ∀ {xs : List α} {ys : List β}, Paired (fun x y => y = f x) xs ys → ys = xs.map f
  | _, _, .nil => rfl
  | _, _, .cons h r => by rw [h, paired_map r]; rfl
theorem we_lc {α β : Type} {r : Rep α} {s : Rep β} {xs : List α} {pr : α → Bool} {f : α → β} {wi : TI} {g : TG} {tt : TT} {te : TE} {vs : List Nat} {Γ2 : α → Gam}
    (it : Wi fr Γ Θ wi fun its Θ1 => its = xs.map (iz r) ∧ Θ1 = Θ) (hl : xs.length ≤ 1000) (tg : ∀ x, TgR g vs (iz r x) (wipeG Γ vs) (Γ2 x)) (ht : ∀ x ∈ xs, ∀ c, Et fr (Γ2 x) (c :: Θ) tt (pr x))
    (he : ∀ x ∈ xs, pr x = true → ∀ c, Ev fr (Γ2 x) (c :: Θ) te (iz s (f x))) (k : K (iz (zL s) ((xs.filter pr).map f)) Θ) : We fr Γ Θ (tLc wi g tt te vs) K :=
  we_lcR (R := fun x y => y = f x) it hl tg ht (fun x hx hp c => (he x hx hp c).imp fun p Θ' ⟨e1, e2⟩ => ⟨e2, f x, rfl, e1⟩) fun ys h => by
    rw [paired_map h]
    exact k
theorem wt_yes {K : Bool → List Cel → Prop} (k : K true Θ) : Wt fr Γ Θ tYes K := fun σ F H ok env Q q => q true Θ k F H (Same.refl F) ok
end
end L2
set_option Elab.async false
set_option linter.all false
set_option maxRecDepth 100000
set_option maxHeartbeats 4000000
namespace L2
open PySem PySem.Spec PyProof.Rows PySem.HErr
/-- an error: its class, its fields -/
structure Er where
  C : Addr
  fs : List (Str × Vp)
def FsOk (F : Hp) (fs : List (Str × Vp)) (us : List (Str × V)) : Prop := Paired (fun (x : Str × Vp) (y : Str × V) => x.1 = y.1 ∧ x.2.p F y.2) fs us
theorem FsOk.mono {F F' : Hp} {fs : List (Str × Vp)} {us : List (Str × V)} (h : FsOk F fs us) (e : Same F F') : FsOk F' fs us := Paired.imp2 (fun x _ ⟨h1, h2⟩ => ⟨h1, x.2.mono e h2⟩) h
theorem FsOk.look {F : Hp} {f : Str} {p : Vp} : ∀ {fs : List (Str × Vp)} {us : List (Str × V)}, FsOk F fs us → fs.lookup f = some p → ∃ v, us.lookup f = some v ∧ p.p F v
  | _, _, .nil, h => by cases h
  | (a, q) :: fs, (b, u) :: us, .cons ⟨h1, h2⟩ r, h => by
    have h1 : a = b := h1
    subst h1
    rw [List.lookup_cons] at h ⊢
    cases e : (f == a) with
    | true =>
      rw [e] at h
      cases h
      exact ⟨u, rfl, h2⟩
    | false =>
      rw [e] at h
      exact FsOk.look r h
def Kr (fr : Fr) (Γ : Gam) (Θ : List Cel) (W : WX) (e : Er) : Prop := ∀ σ F H, OkF fr Θ F H → EnvF Γ σ F → ∀ d us, F d = some (.xd us) → FsOk F e.fs us → W (.ref e.C) (some d) σ H
/-- what a def raises -/
def Rse (fr : Fr) (E : XK) (err : Er → Prop) : Prop := ∀ e, err e → ∀ Θ F H d us, OkF fr Θ F H → F d = some (.xd us) → FsOk F e.fs us → E (.ref e.C) (some d) H
/-- what a def returns -/
def Ret (fr : Fr) (Q : VK) (out : Vp → Prop) : Prop := ∀ p, out p → ∀ Θ, Rt fr Θ Q p
def Sps (fr : Fr) (Γ : Gam) (Θ : List Cel) (sp : Sp) (E : L2.St → XK) (ps : List Vp) (K : Vp → List Cel → Prop) : Prop := ∀ σ F H vs, OkF fr Θ F H → EnvF Γ σ F → Paired (fun (p : Vp) v => p.p F v) ps vs → ∀ Q, Kq fr F K Q → sp vs H Q (E σ)
section
variable {fr : Fr} {Γ Γ' : Gam} {Θ : List Cel} {F F' H H' : Hp} {K : Vp → List Cel → Prop} {Q : VK}
theorem Rse.fine {fr' : Fr} {E : XK} {err : Er → Prop} (h : Rse fr E err) (l : FrLe fr fr') : Rse fr' E err := fun e he Θ F H d us ok => h e he Θ F H d us (ok.le l)
theorem Ret.fine {fr' : Fr} {out : Vp → Prop} (h : Ret fr Q out) (l : FrLe fr fr') : Ret fr' Q out := fun p hp Θ => (h p hp Θ).fine l
theorem we_callE {sp : Sp} {E : XK} {t : TA} (w : Wa fr Γ Θ t fun ps Θ1 => Sps fr Γ Θ1 sp (fun _ => E) ps K) : We fr Γ Θ (tCall sp [] E t) K := fun σ F H ok env Q q =>
  w σ F H ok env _ fun ps Θ1 k vs F1 H1 s1 ok1 hps => by
    rw [List.append_nil]
    exact k σ F1 H1 vs ok1 (env.mono s1) hps Q (q.mono s1)
theorem we_callS {sp : Sp} {E : L2.St → XK} {t : TA} (w : Wa fr Γ Θ t fun ps Θ1 => Sps fr Γ Θ1 sp E ps K) : We fr Γ Θ (tCallS sp E t) K := fun σ F H ok env Q q =>
  w σ F H ok env _ fun ps Θ1 k vs F1 H1 s1 ok1 hps => k σ F1 H1 vs ok1 (env.mono s1) hps Q (q.mono s1)
/-- an instance of the class at C, m no field of its own -/
def InsP (fr : Fr) (Θ : List Cel) (p : Vp) (C : Addr) (m : Str) : Prop := ∀ F H v, OkF fr Θ F H → p.p F v → ∃ a dx fs, v = .ref a ∧ H a = some (.ins C dx fs) ∧ fs.lookup m = none
theorem we_met {C : Addr} {m : Str} {sp : Sp} {E : L2.St → XK} {ta : TE} {t : TA} (w : We fr Γ Θ ta fun p Θ1 => InsP fr Θ1 p C m ∧ Wa fr Γ Θ1 t fun ps Θ2 => Sps fr Γ Θ2 sp E (p :: ps) K) : We fr Γ Θ (tMetD C m sp E ta t) K := fun σ F H ok env Q q =>
  w σ F H ok env _ fun p Θ1 ⟨ki, k⟩ v F1 H1 s1 ok1 hp => by
    obtain ⟨a, dx, fs, rfl, h2, h3⟩ := ki F1 H1 v ok1 hp
    exact ⟨a, dx, fs, rfl, h2, h3, k σ F1 H1 ok1 (env.mono s1) _ fun ps Θ2 k2 vs F2 H2 s2 ok2 hps => k2 σ F2 H2 _ ok2 ((env.mono s1).mono s2) (.cons (p.mono s2 hp) hps) Q (q.mono (s1.trans s2))⟩
def Post (F H : Hp) (Q : VK) (out : Vp → Prop) : Prop := ∀ p, out p → ∀ v F' H', Same H H' → Same F F' → Same F' H' → Newer F H F' → p.p F' v → Q v H'
def PErs (F H : Hp) (E : XK) (err : Er → Prop) : Prop := ∀ e, err e → ∀ F' H' d us, Same H H' → Same F F' → Same F' H' → Newer F H F' → F' d = some (.xd us) → FsOk F' e.fs us → E (.ref e.C) (some d) H'
abbrev Pre := List Vp → (Vp → Prop) → (Er → Prop) → Prop
def spA (pre : Pre) : Sp := fun vs H Q E => ∃ F ps out err, Same F H ∧ Paired (fun (p : Vp) v => p.p F v) ps vs ∧ pre ps out err ∧ Post F H Q out ∧ PErs F H E err
theorem sps_A {pre : Pre} {E : L2.St → XK} {ps : List Vp} {out : Vp → Prop} {err : Er → Prop} (hp : pre ps out err) (k : ∀ p, out p → K p Θ) (x : ∀ e, err e → Kr fr Γ Θ (fun cls d σ H => E σ cls d H) e) : Sps fr Γ Θ (spA pre) E ps K := fun σ F H vs ok env hps Q q =>
  ⟨F, ps, out, err, ok.fh, hps, hp, fun p ho v F' H' hh ff fh nw h => q p Θ (k p ho) v F' H' ff (ok.grow hh ff fh nw) h,
    fun e he F' H' d us hh ff fh nw hd hf => x e he σ F' H' (ok.grow hh ff fh nw) (env.mono ff) d us hd hf⟩
/-- nothing is raised -/
def noErr : Er → Prop := fun _ => False
theorem OkF.post (ok : OkF ⟨F, H, []⟩ Θ F' H') : Same H H' ∧ Same F F' ∧ Same F' H' ∧ Newer F H F' := ⟨fun a o h => ok.h0 a o (by simp) h, ok.f0, ok.fh, ok.nw⟩
theorem Post.ret {out : Vp → Prop} (h : Post F H Q out) : Ret ⟨F, H, []⟩ Q out := fun p hp Θ v F' H' ok hv => by
  obtain ⟨a, b, c, d⟩ := ok.post
  exact h p hp v F' H' a b c d hv
theorem PErs.rse {E : XK} {err : Er → Prop} (h : PErs F H E err) : Rse ⟨F, H, []⟩ E err := fun e he Θ F' H' d us ok hd hf => by
  obtain ⟨a, b, c, n⟩ := ok.post
  exact h e he F' H' d us a b c n hd hf
def envOf (N : List Str) (ps : List Vp) : Gam := ps.map some ++ List.replicate (N.length - ps.length) none
theorem env_start {N : List Str} {ps : List Vp} {vs : List V} (h : Paired (fun (p : Vp) v => p.p F v) ps vs) : EnvF (envOf N ps) (start N vs) F := by
  unfold envOf start
  rw [Paired.len h]
  refine Paired.app ?_ ?_
  · induction h with
    | nil => exact .nil
    | cons a _ ih => exact .cons (fun p hp => by cases hp; exact ⟨_, rfl, a⟩) ih
  · have : ∀ n : Nat, Paired (fun (e : Option Vp) (s : Option V) => ∀ p, e = some p → ∃ v, s = some v ∧ p.p F v) (List.replicate n none) (List.replicate n none) := fun n => by
      induction n with
      | zero => exact .nil
      | succ n ih => exact .cons (fun p hp => by cases hp) ih
    exact this _
end
section
variable {P : Program} {w : World} {K : PySem.W.Frag} {mg : Str → Option Value} {base : Heap} {x m qual : Str} {C : Addr} {st : Stmt} {N ps : List Str} {k : Nat} {pre : Pre}
theorem Src.okA (F : Src K mg x st ps) (S : FnScope N ps (defScope st)) (len : ∀ qs out err, pre qs out err → qs.length = ps.length)
    (hbody : ∀ (f : Addr) (cdv : Value) (A : Around) (outer : List Env) (s : Shared) (H : Hp) (E : XK) (qs : List Vp) (out : Vp → Prop) (err : Er → Prop), Room k (A.deeper (envOfC x (defScope st) s.heap.objs.size f cdv)) → pre qs out err →
      ∃ t, PSs (cxOf CX0 P w K mg base N x (defScope st) f cdv A outer s H E).nox (defBody st) t ∧ ∀ fr Q, Ret fr Q out → Kn fr (envOf N qs) [] (t { nx := fun _ H' => Q .non H', rt := Q })) : Def P w K mg base CX0 (k + 1) x ps (spA pre) := by
  refine F.ok S (fun vs H Q E h => ?_) (fun f cdv A outer s H vs Q E hr h => ?_)
  · obtain ⟨F, qs, out, err, _, h2, h3, _⟩ := h
    rw [← Paired.len h2]
    exact len _ _ _ h3
  · obtain ⟨F, qs, out, err, h1, h2, h3, h4, h5⟩ := h
    obtain ⟨t, ht, hk⟩ := hbody f cdv A outer s H E qs out err hr h3
    exact ⟨t, ht, hk _ Q h4.ret _ F H (OkF.start h1) (env_start h2)⟩
theorem Src.okAX (F : Src K mg x st ps) (S : FnScope N ps (defScope st)) (len : ∀ qs out err, pre qs out err → qs.length = ps.length)
    (hbody : ∀ (f : Addr) (cdv : Value) (A : Around) (outer : List Env) (s : Shared) (H : Hp) (E : XK) (qs : List Vp) (out : Vp → Prop) (err : Er → Prop), Room k (A.deeper (envOfC x (defScope st) s.heap.objs.size f cdv)) → pre qs out err →
      ∃ t, PSs (cxOf (L2.CX P w) P w K mg base N x (defScope st) f cdv A outer s H E) (defBody st) t ∧ ∀ fr Q, Ret fr Q out → Rse fr E err → Kn fr (envOf N qs) [] (t { nx := fun _ H' => Q .non H', rt := Q })) : Def P w K mg base (L2.CX P w) (k + 1) x ps (spA pre) := by
  refine F.okX S (fun vs H Q E h => ?_) (fun f cdv A outer s H vs Q E hr h => ?_)
  · obtain ⟨F, qs, out, err, _, h2, h3, _⟩ := h
    rw [← Paired.len h2]
    exact len _ _ _ h3
  · obtain ⟨F, qs, out, err, h1, h2, h3, h4, h5⟩ := h
    obtain ⟨t, ht, hk⟩ := hbody f cdv A outer s H E qs out err hr h3
    exact ⟨t, ht, hk _ Q h4.ret h5.rse _ F H (OkF.start h1) (env_start h2)⟩
theorem SrcM.okA (F : SrcM K C m qual st ps) (S : FnScope N ps (defScope st)) (len : ∀ qs out err, pre qs out err → qs.length = ps.length)
    (hbody : ∀ (f : Addr) (cdv : Value) (A : Around) (outer : List Env) (s : Shared) (H : Hp) (E : XK) (qs : List Vp) (out : Vp → Prop) (err : Er → Prop), Room k (A.deeper (envOfC qual (defScope st) s.heap.objs.size f cdv)) → pre qs out err →
      ∃ t, PSs (cxOf CX0 P w K mg base N qual (defScope st) f cdv A outer s H E).nox (defBody st) t ∧ ∀ fr Q, Ret fr Q out → Kn fr (envOf N qs) [] (t { nx := fun _ H' => Q .non H', rt := Q })) : DefM P w K mg base CX0 (k + 1) C m ps (spA pre) := by
  refine F.ok S (fun vs H Q E h => ?_) (fun f cdv A outer s H vs Q E hr h => ?_)
  · obtain ⟨F, qs, out, err, _, h2, h3, _⟩ := h
    rw [← Paired.len h2]
    exact len _ _ _ h3
  · obtain ⟨F, qs, out, err, h1, h2, h3, h4, h5⟩ := h
    obtain ⟨t, ht, hk⟩ := hbody f cdv A outer s H E qs out err hr h3
    exact ⟨t, ht, hk _ Q h4.ret _ F H (OkF.start h1) (env_start h2)⟩
theorem SrcM.okAX (F : SrcM K C m qual st ps) (S : FnScope N ps (defScope st)) (len : ∀ qs out err, pre qs out err → qs.length = ps.length)
    (hbody : ∀ (f : Addr) (cdv : Value) (A : Around) (outer : List Env) (s : Shared) (H : Hp) (E : XK) (qs : List Vp) (out : Vp → Prop) (err : Er → Prop), Room k (A.deeper (envOfC qual (defScope st) s.heap.objs.size f cdv)) → pre qs out err →
      ∃ t, PSs (cxOf (L2.CX P w) P w K mg base N qual (defScope st) f cdv A outer s H E) (defBody st) t ∧ ∀ fr Q, Ret fr Q out → Rse fr E err → Kn fr (envOf N qs) [] (t { nx := fun _ H' => Q .non H', rt := Q })) : DefM P w K mg base (L2.CX P w) (k + 1) C m ps (spA pre) := by
  refine F.okX S (fun vs H Q E h => ?_) (fun f cdv A outer s H vs Q E hr h => ?_)
  · obtain ⟨F, qs, out, err, _, h2, h3, _⟩ := h
    rw [← Paired.len h2]
    exact len _ _ _ h3
  · obtain ⟨F, qs, out, err, h1, h2, h3, h4, h5⟩ := h
    obtain ⟨t, ht, hk⟩ := hbody f cdv A outer s H E qs out err hr h3
    exact ⟨t, ht, hk _ Q h4.ret h5.rse _ F H (OkF.start h1) (env_start h2)⟩
end
section
variable {fr : Fr} {Γ Γ' : Gam} {Θ : List Cel} {F F' H H' : Hp} {K : Vp → List Cel → Prop} {Q : VK}
theorem kr_E {E : XK} {err : Er → Prop} {e : Er} (h : Rse fr E err) (he : err e) : Kr fr Γ Θ (fun cls d _ H => E cls d H) e := fun σ F H ok env d us hd hf => h e he Θ F H d us ok hd hf
theorem zip_ok {fs : List Str} {ps : List Vp} {vs : List V} (h : Paired (fun (p : Vp) v => p.p F v) ps vs) : ∀ {fs : List Str}, Paired (fun (x : Str × Vp) (y : Str × V) => x.1 = y.1 ∧ x.2.p F y.2) (fs.zip ps) (fs.zip vs) := fun {fs} => by
  induction h generalizing fs with
  | nil => rw [List.zip_nil_right, List.zip_nil_right]; exact .nil
  | cons a _ ih => cases fs with
    | nil => exact .nil
    | cons f fs => exact .cons ⟨rfl, a⟩ ih
theorem Paired.rev {α β : Type} {R : α → β → Prop} {l : List α} {m : List β} (h : Paired R l m) : Paired R l.reverse m.reverse := by
  induction h with
  | nil => exact .nil
  | cons a _ ih => rw [List.reverse_cons, List.reverse_cons]; exact PySem.Paired.snoc ih a
theorem kn_raise {tm : Bool} {C : Addr} {fs : List Str} {W : WX} {ta : TA} {D : Ends} (w : Wa fr Γ Θ ta fun ps Θ1 => ps.length = fs.length ∧ (tm = true → ∃ z r, ps = iz zS z :: r ∧ z.length ≤ 1000) ∧ Kr fr Γ Θ1 W ⟨C, (fs.zip ps).reverse⟩) : Kn fr Γ Θ (tRaiseE tm C fs W ta D) := fun σ F H ok env =>
  w σ F H ok env _ fun ps Θ1 ⟨hl, ht, k⟩ vs F1 H1 s1 ok1 hps => by
    refine ⟨by rw [← Paired.len hps]; exact hl, fun h => ?_, fun d nd => ?_⟩
    · obtain ⟨z, r, e, hz⟩ := ht h
      subst e
      cases hps with
      | cons a b => exact ⟨z, _, by rw [a.1], hz⟩
    · have s2 := ok1.sameF (o := .xd (fs.zip vs).reverse) nd
      exact k σ _ _ (ok1.new nd) ((env.mono s1).mono s2) d _ upd_same (Paired.rev (zip_ok (fs := fs) (ps_mono s2 hps)))
/-- the caught exception at a, its dict at d -/
def zExc (a d : Addr) (fs : List (Str × Vp)) : Vp := ⟨fun F v => v = .ref a ∧ ∃ us, F d = some (.xd us) ∧ FsOk F fs us, fun e ⟨h1, us, h2, h3⟩ => ⟨h1, us, e _ _ h2, h3.mono e⟩⟩
theorem kr_cl {Kf : PySem.W.Frag} {c : Value} {i : Nat} {ts : Addr → Value → Option Addr → TS} {Wout : WX} {D : Ends} {r : List Clause} {e : Er} (hx : PySem.W.exmOne Kf (.ref e.C) c = some true)
    (k : ∀ a d, Kn fr (Γ.set i (some (zExc a d e.fs))) Θ (ts a (.ref e.C) (some d) { nx := fun σ' H' => D.nx (σ'.set i none) H', rt := D.rt, bk := fun σ' H' => D.bk (σ'.set i none) H', ct := fun σ' H' => D.ct (σ'.set i none) H' })) : Kr fr Γ Θ (wClauses Kf Wout D ((c, some i, ts) :: r)) e := fun σ F H ok env d us hd hf =>
  ⟨true, hx, fun _ a ha => k a d _ F H ok (env.set (p := zExc a d e.fs) ⟨rfl, us, hd, hf⟩), fun q => Bool.noConfusion q⟩
theorem kr_clN {Kf : PySem.W.Frag} {c : Value} {o : Option Nat} {ts : Addr → Value → Option Addr → TS} {Wout : WX} {D : Ends} {r : List Clause} {e : Er} (hx : PySem.W.exmOne Kf (.ref e.C) c = some false) (k : Kr fr Γ Θ (wClauses Kf Wout D r) e) : Kr fr Γ Θ (wClauses Kf Wout D ((c, o, ts) :: r)) e := fun σ F H ok env d us hd hf =>
  ⟨false, hx, fun q => Bool.noConfusion q, fun _ => k σ F H ok env d us hd hf⟩
theorem we_xf {a d C : Addr} {f : Str} {te : TE} {fs : List (Str × Vp)} {q : Vp} (w : We fr Γ Θ te fun p Θ1 => p = zExc a d fs ∧ fs.lookup f = some q ∧ K q Θ1) : We fr Γ Θ (tXf a (.ref C) (some d) C f te) K := fun σ F H ok env Q k =>
  w σ F H ok env _ fun p Θ1 ⟨e, hl, kk⟩ v F1 H1 s1 ok1 hp => by
    subst e
    obtain ⟨h1, us, h2, h3⟩ := hp
    obtain ⟨u, h4, h5⟩ := h3.look hl
    exact ⟨h1, rfl, d, us, u, rfl, ok1.fh _ _ h2, h4, k q Θ1 kk u F1 H1 s1 ok1 h5⟩
def FldR (Kf : PySem.W.Frag) (f : Str) (p q : Vp) : Prop := ∀ F v, p.p F v → ∃ a C dx fs u, v = .ref a ∧ F a = some (.ins C dx fs) ∧ Cls Kf C ∧ NoAttr Kf C f ∧ fs.lookup f = some u ∧ q.p F u
/-- the field f of p is q -/
def FldP (fr : Fr) (Θ : List Cel) (Kf : PySem.W.Frag) (f : Str) (p q : Vp) : Prop := ∀ F H v, OkF fr Θ F H → p.p F v → ∃ a C dx fs u, v = .ref a ∧ H a = some (.ins C dx fs) ∧ Cls Kf C ∧ NoAttr Kf C f ∧ fs.lookup f = some u ∧ q.p F u
theorem FldR.p {Kf : PySem.W.Frag} {f : Str} {p q : Vp} (h : FldR Kf f p q) : FldP fr Θ Kf f p q := fun F H v ok hv => by
  obtain ⟨a, C, dx, fs, u, h1, h2, h3, h4, h5, h6⟩ := h F v hv
  exact ⟨a, C, dx, fs, u, h1, ok.fh _ _ h2, h3, h4, h5, h6⟩
theorem we_fld {Kf : PySem.W.Frag} {f : Str} {ta : TE} (w : We fr Γ Θ ta fun p Θ1 => ∃ q, FldP fr Θ1 Kf f p q ∧ K q Θ1) : We fr Γ Θ (tFld Kf ta f) K := fun σ F H ok env Q k =>
  w σ F H ok env _ fun p Θ1 ⟨q, hf, kk⟩ v F1 H1 s1 ok1 hp => by
    obtain ⟨a, C, dx, fs, u, h1, h2, h3, h4, h5, h6⟩ := hf F1 H1 v ok1 hp
    exact ⟨a, C, dx, fs, u, h1, h2, h3, h4, h5, k q Θ1 kk u F1 H1 s1 ok1 h6⟩
theorem ty_cell {α : Type} {r : Rep α} {xs : List α} {a : Addr} {Kf : PySem.W.Frag} (hc : cL a r xs ∈ Θ) : ∀ F H v, OkF fr Θ F H → (zAt a).p F v → tyV Kf "list" v H := fun F H v ok hv => by
  have hv : v = .ref a := hv
  subst hv
  obtain ⟨_, ⟨o, h2, vs, rfl, h4⟩, _⟩ := ok.ce _ hc
  exact .inl ⟨rfl, vs, SqL.of h2⟩
theorem mts_append {α : Type} {r : Rep α} {xs : List α} {x : α} {a : Addr} {j : Nat} (hj : Θ[j]? = some (cL a r xs)) (hl : xs.length < 1000) (k : K zNon (Θ.set j (cL a r (xs ++ [x])))) : Mts fr Θ rAppend (zAt a) [iz r x] K := fun F H v vs ok hv hps Q q => by
  have hv : v = .ref a := hv
  subst hv
  obtain ⟨_, ⟨o, h2, us, rfl, h4⟩, _⟩ := ok.ce _ (List.mem_of_getElem? hj)
  cases hps with
  | cons h1 hp => cases hp with
    | nil => exact ⟨a, us, _, rfl, rfl, h2, by rw [Paired.len h4]; exact small1000 (Nat.le_of_lt hl), q _ _ k _ F _ (Same.refl F) (ok.mut hj rfl rfl ⟨_, rfl, PySem.Paired.snoc h4 h1⟩) rfl⟩
/-- xs.append(e) -/
theorem kn_append {Kf : PySem.W.Frag} {α : Type} {r : Rep α} {xs : List α} {a : Addr} {i : Nat} {te : TE} {D : Ends} (hi : Γ[i]? = some (some (zAt a))) (hc : cL a r xs ∈ Θ)
    (w : We fr Γ Θ te fun p Θ1 => ∃ x j, p = iz r x ∧ Θ1[j]? = some (cL a r xs) ∧ xs.length < 1000 ∧ Kn fr Γ (Θ1.set j (cL a r (xs ++ [x]))) D.nx) : Kn fr Γ Θ (tDrop (tBM Kf "list" rAppend (tVar i) (tCons te tNil)) D) :=
  kn_drop (we_bm (we_var hi ⟨ty_cell hc, wa_cons (w.imp fun p Θ1 ⟨x, j, e, hj, hl, k⟩ => wa_nil (by
    subst e
    exact mts_append hj hl k))⟩))
class Dat {α : Type} (r : Rep α) where
  enc : α → PyData
  dep : Nat
  dp : ∀ {Kf : PySem.W.Frag} {F : Hp} {v : V} {x : α}, r.p F v x → Dp Kf F v (enc x)
  ok : ∀ {F : Hp} {v : V} {x : α}, r.p F v x → nb (enc x) = true
  dl : ∀ x : α, (enc x).depth ≤ dep
  inj : ∀ {x y : α}, enc x = enc y → x = y
instance : Dat zI := ⟨PyData.int, 0, fun h => by cases (show _ = V.int _ from h); exact .int _, fun _ => rfl, fun _ => by simp [PyData.depth], fun h => PyData.int.inj h⟩
instance : Dat zS := ⟨PyData.str, 0, fun h => by cases h.1; exact .str _, fun h => h.2.ok, fun _ => by simp [PyData.depth], fun h => PyData.str.inj h⟩
theorem map_inj' {α β : Type} {f : α → β} (hf : ∀ x y, f x = f y → x = y) : ∀ {l m : List α}, l.map f = m.map f → l = m
  | [], [], _ => rfl
  | [], _ :: _, h => by cases h
  | _ :: _, [], h => by cases h
  | a :: l, b :: m, h => by
    rw [List.map_cons, List.map_cons, List.cons.injEq] at h
    rw [hf _ _ h.1, map_inj' hf h.2]
theorem dat_all {α : Type} {r : Rep α} [d : Dat r] {Kf : PySem.W.Frag} {vs : List V} {xs : List α} (h : PVs r F vs xs) : DpAll Kf F vs (xs.map d.enc) := by
  induction h with
  | nil => exact .nil
  | cons a _ ih => exact .cons (d.dp a) ih
theorem dat_nb {α : Type} {r : Rep α} [d : Dat r] {vs : List V} {xs : List α} (h : PVs r F vs xs) : nbAll (xs.map d.enc) = true := by
  induction h with
  | nil => rfl
  | cons a _ ih => show (nb _ && nbAll _) = true; rw [d.ok a, ih]; rfl
theorem dat_dep {α : Type} {r : Rep α} [d : Dat r] (xs : List α) : PyData.depthAll (xs.map d.enc) ≤ d.dep := depthAll_le fun y hy => by
  obtain ⟨x, _, rfl⟩ := List.mem_map.mp hy
  exact d.dl x
instance {α : Type} {r : Rep α} [d : Dat r] : Dat (zL r) := ⟨fun xs => .list (xs.map d.enc), d.dep + 1, fun ⟨a, vs, h1, h2, h3⟩ => by subst h1; exact .lst (SqL.of h2) (dat_all h3), fun ⟨a, vs, h1, h2, h3⟩ => dat_nb h3, fun xs => by
  have := dat_dep (r := r) xs
  simp only [PyData.depth]
  omega, fun h => map_inj' (fun _ _ => d.inj) (PyData.list.inj h)⟩
instance {α : Type} [TNar α] {r : Rep α} [d : Dat r] : Dat (zT r) := ⟨fun xs => .tuple (xs.map d.enc), d.dep + 1, fun ⟨a, vs, h1, h2, h3⟩ => by subst h1; exact .tup (h2.sq (Same.refl _)) (dat_all h3), fun ⟨a, vs, h1, h2, h3⟩ => dat_nb h3, fun xs => by
  have := dat_dep (r := r) xs
  simp only [PyData.depth]
  omega, fun h => map_inj' (fun _ _ => d.inj) (PyData.tuple.inj h)⟩
instance {α β : Type} {r : Rep α} {s : Rep β} [d : Dat r] [e : Dat s] : Dat (z2 r s) := ⟨fun x => .tuple [d.enc x.1, e.enc x.2], d.dep + e.dep + 1, fun ⟨a, u, w, h1, h2, h3, h4⟩ => by subst h1; exact .tup (SqT.of h2) (.cons (d.dp h3) (.cons (e.dp h4) .nil)),
  fun ⟨a, u, w, h1, h2, h3, h4⟩ => by show (nb _ && (nb _ && true)) = true; rw [d.ok h3, e.ok h4]; rfl, fun x => by
    have h1 := d.dl x.1
    have h2 := e.dl x.2
    simp only [PyData.depth, PyData.depthAll]
    omega, fun {x y} h => by
    have h := PyData.tuple.inj h
    rw [List.cons.injEq, List.cons.injEq] at h
    exact Prod.ext (d.inj h.1) (e.inj h.2.1)⟩
instance {α β γ : Type} {r : Rep α} {s : Rep β} {t : Rep γ} [d : Dat r] [e : Dat s] [f : Dat t] : Dat (z3 r s t) := ⟨fun x => .tuple [d.enc x.1, e.enc x.2.1, f.enc x.2.2], d.dep + e.dep + f.dep + 1, fun ⟨a, u, w, z, h1, h2, h3, h4, h5⟩ => by subst h1; exact .tup (SqT.of h2) (.cons (d.dp h3) (.cons (e.dp h4) (.cons (f.dp h5) .nil))),
  fun ⟨a, u, w, z, h1, h2, h3, h4, h5⟩ => by show (nb _ && (nb _ && (nb _ && true))) = true; rw [d.ok h3, e.ok h4, f.ok h5]; rfl, fun x => by
    have h1 := d.dl x.1
    have h2 := e.dl x.2.1
    have h3 := f.dl x.2.2
    simp only [PyData.depth, PyData.depthAll]
    omega, fun {x y} h => by
    have h := PyData.tuple.inj h
    rw [List.cons.injEq, List.cons.injEq, List.cons.injEq] at h
    exact Prod.ext (d.inj h.1) (Prod.ext (e.inj h.2.1) (f.inj h.2.2.1))⟩
theorem dat_eqv {α : Type} [DecidableEq α] {r : Rep α} [d : Dat r] {v w : V} {x y : α} (hv : r.p F v x) (hw : r.p F w y) : PyData.eqv (d.enc x) (d.enc y) = decide (x = y) := by
  have h := eqv_nb (d.enc x) (d.enc y) (d.ok hv) (d.ok hw)
  by_cases e : x = y
  · rw [decide_eq_true e, h, e]
  · rw [decide_eq_false e]
    cases q : PyData.eqv (d.enc x) (d.enc y) with
    | false => rfl
    | true => exact absurd (d.inj (h.mp q)) e
theorem Dp.up {Kf : PySem.W.Frag} {v : V} {d : PyData} (h : Dp Kf F v d) (e : Same F H) : Dp Kf H v d := Dp.keep e d v h
theorem ops_eqD {Kf : PySem.W.Frag} {α : Type} [DecidableEq α] {r : Rep α} [d : Dat r] {x y : α} (hd : d.dep ≤ 64) (k : K (iz zB (decide (x = y))) Θ) : Ops fr Θ (rEqD Kf) (iz r x) (iz r y) K := fun F H v w ok hv hw Q q => by
  refine ⟨d.enc x, d.enc y, (d.dp hv).up ok.fh, (d.dp hw).up ok.fh, shaped_of (d.ok hv) (Nat.le_trans (d.dl x) hd), shaped_of (d.ok hw) (Nat.le_trans (d.dl y) hd), ?_⟩
  rw [dat_eqv (r := r) hv hw]
  exact q.go k ok rfl
theorem ops_neD {Kf : PySem.W.Frag} {α : Type} [DecidableEq α] {r : Rep α} [d : Dat r] {x y : α} (hd : d.dep ≤ 64) (k : K (iz zB (!decide (x = y))) Θ) : Ops fr Θ (rNeD Kf) (iz r x) (iz r y) K := fun F H v w ok hv hw Q q => by
  refine ⟨d.enc x, d.enc y, (d.dp hv).up ok.fh, (d.dp hw).up ok.fh, shaped_of (d.ok hv) (Nat.le_trans (d.dl x) hd), shaped_of (d.ok hw) (Nat.le_trans (d.dl y) hd), ?_⟩
  rw [dat_eqv (r := r) hv hw]
  exact q.go k ok rfl
end
end L2
set_option Elab.async false
set_option linter.all false
set_option maxRecDepth 100000
set_option maxHeartbeats 4000000
namespace L2
open PySem PySem.Spec PyProof.Rows PySem.HErr
def KVs {α : Type} (r : Rep α) (F : Hp) (kvs : List (Key × V)) (rows : List (Str × α)) : Prop := Paired (fun (kv : Key × V) (x : Str × α) => kv.1 = Sum.inr x.1 ∧ r.p F kv.2 x.2) kvs rows
theorem KVs.mono {α : Type} {r : Rep α} {F F' : Hp} {kvs : List (Key × V)} {rows : List (Str × α)} (h : KVs r F kvs rows) (e : Same F F') : KVs r F' kvs rows := Paired.imp2 (fun _ _ ⟨h1, h2⟩ => ⟨h1, r.mono e h2⟩) h
/-- a dict from texts, frozen -/
def zD {α : Type} (r : Rep α) : Rep (List (Str × α)) := ⟨fun F v rows => ∃ a kvs, v = .ref a ∧ F a = some (.dK kvs) ∧ KVs r F kvs rows, fun e ⟨a, kvs, h1, h2, h3⟩ => ⟨a, kvs, h1, e _ _ h2, h3.mono e⟩⟩
/-- a dict from texts, one's own -/
def cD {α : Type} (a : Addr) (r : Rep α) (rows : List (Str × α)) : Cel := ⟨a, true, fun F o => ∃ kvs, o = .dK kvs ∧ KVs r F kvs rows, fun e ⟨kvs, h1, h2⟩ => ⟨kvs, h1, h2.mono e⟩, fun h e => by subst e; simp at h⟩
/-- the value by a key -/
def getR {α : Type} (rows : List (Str × α)) (n : Str) : Option α := (rows.find? fun x => decide (x.1 = n)).map (·.2)
theorem getR_mem {α : Type} {rows : List (Str × α)} {n : Str} {x : α} (h : getR rows n = some x) : (n, x) ∈ rows := by
  unfold getR at h
  obtain ⟨y, hy, e⟩ := Option.map_eq_some_iff.mp h
  have h1 := List.mem_of_find?_eq_some hy
  have h2 : decide (y.1 = n) = true := List.find?_some (p := fun (x : Str × α) => decide (x.1 = n)) hy
  have h2 := of_decide_eq_true h2
  subst h2 e
  exact h1
theorem getR_none {α : Type} {rows : List (Str × α)} {n : Str} : getR rows n = none ↔ n ∉ rows.map (·.1) := by
  unfold getR
  rw [Option.map_eq_none_iff, List.find?_eq_none]
  constructor
  · intro h q
    obtain ⟨y, hy, e⟩ := List.mem_map.mp q
    exact h y hy (by simp [e])
  · intro h y hy q
    exact h (List.mem_map.mpr ⟨y, hy, of_decide_eq_true q⟩)
theorem getR_nodup {α : Type} {rows : List (Str × α)} (hn : (rows.map (·.1)).Nodup) {n : Str} {x : α} (h : (n, x) ∈ rows) : getR rows n = some x := by
  cases e : getR rows n with
  | none => exact absurd (List.mem_map.mpr ⟨_, h, rfl⟩) (getR_none.mp e)
  | some y =>
    have h2 := getR_mem e
    have : ∀ {l : List (Str × α)}, (l.map (·.1)).Nodup → (n, x) ∈ l → (n, y) ∈ l → y = x := by
      intro l
      induction l with
      | nil => intro _ h; cases h
      | cons a l ih =>
        intro hn h1 h2
        rw [List.map_cons, List.nodup_cons] at hn
        rcases List.mem_cons.mp h1 with h1 | h1
        · rcases List.mem_cons.mp h2 with h2 | h2
          · rw [← h1] at h2
            exact (Prod.mk.inj h2).2
          · exact absurd (List.mem_map.mpr ⟨_, h2, by rw [← h1]⟩) hn.1
        · rcases List.mem_cons.mp h2 with h2 | h2
          · exact absurd (List.mem_map.mpr ⟨_, h1, by rw [← h2]⟩) hn.1
          · exact ih hn.2 h1 h2
    rw [this hn h h2]
section
variable {fr : Fr} {Γ Γ' : Gam} {Θ : List Cel} {F F' H H' : Hp} {K : Vp → List Cel → Prop} {Q : VK}
theorem KVs.val {α : Type} {r : Rep α} {n : Str} : ∀ {kvs : List (Key × V)} {rows : List (Str × α)}, KVs r F kvs rows → (∀ x, getR rows n = some x → ∃ u, valV kvs (Sum.inr n) = some u ∧ r.p F u x) ∧ (getR rows n = none → valV kvs (Sum.inr n) = none)
  | _, _, .nil => ⟨(fun x h => by cases h), fun _ => rfl⟩
  | kv :: kvs, (a, y) :: rows, .cons ⟨h1, h2⟩ hr => by
    have h1 : kv.1 = Sum.inr a := h1
    obtain ⟨ih1, ih2⟩ := KVs.val (n := n) hr
    by_cases e : a = n
    · subst e
      have e2 : getR ((a, y) :: rows) a = some y := by unfold getR; simp
      refine ⟨fun x hx => ?_, fun hx => ?_⟩
      · rw [e2] at hx
        cases hx
        exact ⟨kv.2, by rw [valV_pos h1], h2⟩
      · rw [e2] at hx
        cases hx
    · have e2 : getR ((a, y) :: rows) n = getR rows n := by unfold getR; simp [e]
      have hk : ¬ kv.1 = Sum.inr n := fun q => by rw [h1] at q; exact e (Sum.inr.inj q)
      rw [e2, valV_neg hk]
      exact ⟨ih1, ih2⟩
/-- a dict to be read -/
def DicP {α : Type} (fr : Fr) (Θ : List Cel) (p : Vp) (r : Rep α) (rows : List (Str × α)) : Prop := ∀ F H v, OkF fr Θ F H → p.p F v → ∃ a kvs, v = .ref a ∧ H a = some (.dK kvs) ∧ KVs r F kvs rows
theorem dic_D {α : Type} {r : Rep α} {rows : List (Str × α)} : DicP fr Θ (iz (zD r) rows) r rows := fun F H v ok ⟨a, kvs, h1, h2, h3⟩ => ⟨a, kvs, h1, ok.fh _ _ h2, h3⟩
theorem dic_C {α : Type} {r : Rep α} {rows : List (Str × α)} {a : Addr} (hc : cD a r rows ∈ Θ) : DicP fr Θ (zAt a) r rows := fun F H v ok hv => by
  obtain ⟨_, ⟨o, h2, kvs, rfl, h4⟩, _⟩ := ok.ce _ hc
  exact ⟨a, kvs, hv, h2, h4⟩
theorem we_dget {td ty : TE} (w : We fr Γ Θ td fun p Θ1 => We fr Γ Θ1 ty fun q Θ2 => ∃ (α : Type) (r : Rep α) (rows : List (Str × α)) (n : Str) (x : α), DicP fr Θ2 p r rows ∧ q = iz zS n ∧ getR rows n = some x ∧ K (iz r x) Θ2) : We fr Γ Θ (tDGet td ty) K := fun σ F H ok env Q q =>
  w σ F H ok env _ fun p Θ1 k v F1 H1 s1 ok1 hp => k σ F1 H1 ok1 (env.mono s1) _ fun p2 Θ2 ⟨α, r, rows, n, x, hd, e, hx, kk⟩ v2 F2 H2 s2 ok2 hp2 => by
    subst e
    obtain ⟨a, kvs, h1, h2, h3⟩ := hd F2 H2 v ok2 (p.mono s2 hp)
    obtain ⟨u, hu, hr⟩ := h3.val.1 x hx
    exact ⟨a, u, h1, .inl ⟨kvs, Sum.inr n, .inl h2, hp2.1, hu.symm⟩, q _ _ kk u F2 H2 (s1.trans s2) ok2 hr⟩
theorem opt_some {α : Type} {r : Rep α} {rows : List (Str × α)} {kvs : List (Key × V)} {n : Str} (h3 : KVs r F kvs rows) : (valV kvs (Sum.inr n)).isSome = (getR rows n).isSome := by
  cases e : getR rows n with
  | none => rw [h3.val.2 e]; rfl
  | some x =>
    obtain ⟨u, hu, _⟩ := h3.val.1 x e
    rw [hu]
    rfl
theorem we_din {td ty : TE} (w : We fr Γ Θ ty fun q Θ1 => We fr Γ Θ1 td fun p Θ2 => ∃ (α : Type) (r : Rep α) (rows : List (Str × α)) (n : Str), DicP fr Θ2 p r rows ∧ q = iz zS n ∧ K (iz zB (getR rows n).isSome) Θ2) : We fr Γ Θ (tDIn ty td) K := fun σ F H ok env Q q =>
  w σ F H ok env _ fun p Θ1 k v F1 H1 s1 ok1 hp => k σ F1 H1 ok1 (env.mono s1) _ fun p2 Θ2 ⟨α, r, rows, n, hd, e, kk⟩ v2 F2 H2 s2 ok2 hp2 => by
    subst e
    obtain ⟨a, kvs, h1, h2, h3⟩ := hd F2 H2 v2 ok2 hp2
    refine ⟨a, _, h1, .inl ⟨kvs, Sum.inr n, .inl h2, hp.1, rfl⟩, q _ _ kk _ F2 H2 (s1.trans s2) ok2 ?_⟩
    show _ = V.bl _
    rw [opt_some h3]
theorem we_dnin {td ty : TE} (w : We fr Γ Θ ty fun q Θ1 => We fr Γ Θ1 td fun p Θ2 => ∃ (α : Type) (r : Rep α) (rows : List (Str × α)) (n : Str), DicP fr Θ2 p r rows ∧ q = iz zS n ∧ K (iz zB (!(getR rows n).isSome)) Θ2) : We fr Γ Θ (tDNotIn ty td) K := fun σ F H ok env Q q =>
  w σ F H ok env _ fun p Θ1 k v F1 H1 s1 ok1 hp => k σ F1 H1 ok1 (env.mono s1) _ fun p2 Θ2 ⟨α, r, rows, n, hd, e, kk⟩ v2 F2 H2 s2 ok2 hp2 => by
    subst e
    obtain ⟨a, kvs, h1, h2, h3⟩ := hd F2 H2 v2 ok2 hp2
    refine ⟨a, _, h1, .inl ⟨kvs, Sum.inr n, .inl h2, hp.1, rfl⟩, q _ _ kk _ F2 H2 (s1.trans s2) ok2 ?_⟩
    show _ = V.bl _
    rw [opt_some h3]
/-- {} of one's own -/
theorem we_dnew {α : Type} (r : Rep α) (k : ∀ a, K (zAt a) (cD a r [] :: Θ)) : We fr Γ Θ tDNewK K := fun σ F H ok env Q q a na => q _ _ (k a) _ F _ (Same.refl F) (ok.mkOwn (c := cD a r []) na rfl ⟨[], rfl, .nil⟩) rfl
def putR {α : Type} (rows : List (Str × α)) (n : Str) (x : α) : List (Str × α) := if n ∈ rows.map (·.1) then rows.map fun y => if y.1 = n then (y.1, x) else y else rows ++ [(n, x)]
theorem KVs.put {α : Type} {r : Rep α} {kvs : List (Key × V)} {rows : List (Str × α)} {n : Str} {x : α} {u : V} (h : KVs r F kvs rows) (hu : r.p F u x) : KVs r F (putK kvs (Sum.inr n) u) (putR rows n x) := by
  have hk : (kvs.any fun kv => decide (kv.1 = Sum.inr n)) = decide (n ∈ rows.map (·.1)) := by
    induction h with
    | nil => rfl
    | cons a b ih =>
      rename_i kv y kvs rows
      rw [List.any_cons, ih, a.1, List.map_cons]
      by_cases e : y.1 = n
      · rw [decide_eq_true (by rw [e]), Bool.true_or, decide_eq_true (by rw [e]; exact List.mem_cons_self ..)]
      · rw [decide_eq_false (fun q => e (Sum.inr.inj q)), Bool.false_or]
        by_cases e2 : n ∈ rows.map (·.1)
        · rw [decide_eq_true e2, decide_eq_true (List.mem_cons_of_mem _ e2)]
        · rw [decide_eq_false e2, decide_eq_false fun q => (List.mem_cons.mp q).elim (fun q => e q.symm) e2]
  unfold putK putR
  by_cases e : n ∈ rows.map (·.1)
  · rw [if_pos e, if_pos (by rw [hk]; exact decide_eq_true e)]
    clear hk e
    induction h with
    | nil => exact .nil
    | cons a b ih =>
      refine .cons ?_ ih
      rename_i kv y kvs rows
      dsimp only
      by_cases e : y.1 = n
      · rw [if_pos e, if_pos (by rw [a.1, e])]
        exact ⟨a.1, hu⟩
      · rw [if_neg e, if_neg (fun q => e (Sum.inr.inj (a.1.symm.trans q)))]
        exact a
  · rw [if_neg e, if_neg (by rw [hk]; simpa using e)]
    exact PySem.Paired.snoc h ⟨rfl, hu⟩
/-- d[n] = x -/
theorem kn_dput {td ty tv : TE} {D : Ends} (w : We fr Γ Θ tv fun p Θ1 => We fr Γ Θ1 td fun pd Θ2 => We fr Γ Θ2 ty fun q Θ3 => ∃ (α : Type) (r : Rep α) (rows : List (Str × α)) (n : Str) (x : α) (a : Addr) (j : Nat), p = iz r x ∧ pd = zAt a ∧ q = iz zS n ∧ Θ3[j]? = some (cD a r rows) ∧ rows.length < 1000 ∧ Kn fr Γ (Θ3.set j (cD a r (putR rows n x))) D.nx) : Kn fr Γ Θ (sDPut td ty tv D) := fun σ F H ok env =>
  w σ F H ok env _ fun p Θ1 k v F1 H1 s1 ok1 hp => k σ F1 H1 ok1 (env.mono s1) _ fun p2 Θ2 k2 v2 F2 H2 s2 ok2 hp2 => k2 σ F2 H2 ok2 ((env.mono s1).mono s2) _ fun p3 Θ3 ⟨α, r, rows, n, x, a, j, e1, e2, e3, hj, hl, kk⟩ v3 F3 H3 s3 ok3 hp3 => by
    subst e1 e2 e3
    obtain ⟨_, ⟨o, h2, kvs, rfl, h4⟩, _⟩ := ok3.ce _ (List.mem_of_getElem? hj)
    refine ⟨a, _, hp2, .inl ⟨kvs, Sum.inr n, h2, hp3.1, by rw [Paired.len h4]; exact small1000 (Nat.le_of_lt hl), rfl⟩, ?_⟩
    exact kk σ F3 _ (ok3.mut hj rfl rfl ⟨_, rfl, h4.put (r.mono (s2.trans s3) hp)⟩) (((env.mono s1).mono s2).mono s3)
end
structure PlanOk (d : PlanD) : Prop where
  pa : ∀ y ∈ d.places, Wd y
  pn : d.places.Nodup
  bl : d.begin.length = d.places.length
  bn : ∀ n ∈ d.begin, 0 ≤ n ∧ n ≤ 99
  st : ∀ r ∈ d.steps, Wd r.1 ∧ r.2.1 ≠ [] ∧ inOrd d.places r.2.1 = r.2.1 ∧ inOrd d.places r.2.2 = r.2.2
  sn : d.names.Nodup
  p12 : d.places.length ≤ 12
  s16 : d.steps.length ≤ 16
theorem inOrd_sub {ps ns : List Str} {y : Str} (h : y ∈ inOrd ps ns) : y ∈ ps ∧ y ∈ ns := by
  unfold inOrd at h
  obtain ⟨h1, h2⟩ := List.mem_filter.mp h
  exact ⟨h1, of_decide_eq_true h2⟩
theorem PlanOk.tk {d : PlanD} (h : PlanOk d) {r : SRow} (hr : r ∈ d.steps) {y : Str} (hy : y ∈ r.2.1) : y ∈ d.places := by
  rw [← (h.st r hr).2.2.1] at hy
  exact (inOrd_sub hy).1
theorem PlanOk.gv {d : PlanD} (h : PlanOk d) {r : SRow} (hr : r ∈ d.steps) {y : Str} (hy : y ∈ r.2.2) : y ∈ d.places := by
  rw [← (h.st r hr).2.2.2] at hy
  exact (inOrd_sub hy).1
theorem inOrd_nodup {ps ns : List Str} (h : ps.Nodup) : (inOrd ps ns).Nodup := List.Sublist.nodup (List.filter_sublist) h
def zPlan (C : Addr) : Rep PlanD := ⟨fun F v d => ∃ x, v = .ref x ∧ PlanAt F C x d ∧ PlanOk d, fun e ⟨x, h1, h2, h3⟩ => ⟨x, h1, h2.keep e, h3⟩⟩
def PlanD.tk (d : PlanD) : List (Str × List Str) := d.steps.map fun s => (s.1, s.2.1)
def PlanD.gv (d : PlanD) : List (Str × List Str) := d.steps.map fun s => (s.1, s.2.2)
section
variable {fr : Fr} {Γ Γ' : Gam} {Θ : List Cel} {F F' H H' : Hp} {K : PySem.W.Frag} {C : Addr} {d : PlanD}
theorem strs_pvs {ws : List Str} (h : ∀ y ∈ ws, Asc y) : PVs zS F (ws.map V.str) ws := by
  induction ws with
  | nil => exact .nil
  | cons a ws ih => exact .cons ⟨rfl, h a (List.mem_cons_self ..)⟩ (ih fun y hy => h y (List.mem_cons_of_mem _ hy))
theorem ints_pvs {ws : List Int} : PVs zI F (ws.map V.int) ws := by
  induction ws with
  | nil => exact .nil
  | cons a ws ih => exact .cons rfl ih
theorem tab_kvs : ∀ {kvs : List (Key × V)} {rows : List (Str × List Str)}, TabAt F kvs rows → (∀ r ∈ rows, ∀ y ∈ r.2, Asc y) → KVs (zT zS) F kvs rows
  | _, _, .nil, _ => .nil
  | _, _, .cons ⟨h1, t, h2, h3⟩ r, h => .cons ⟨h1, t, _, h2, .inl h3, strs_pvs (h _ (List.mem_cons_self ..))⟩ (tab_kvs r fun r' hr => h r' (List.mem_cons_of_mem _ hr))
/-- the class Plan, as the top left it -/
structure PlanK (K : PySem.W.Frag) (C : Addr) : Prop where
  cl : Cls K C
  nP : NoAttr K C "places"
  nB : NoAttr K C "begin"
  nT : NoAttr K C "taken"
  nG : NoAttr K C "given"
  nS : NoAttr K C "steps"
theorem fld_places (T : PlanK K C) : FldR K "places" (iz (zPlan C) d) (iz (zT zS) d.places) := fun F v ⟨x, h1, h2, h3⟩ => by
  obtain ⟨dx, tp, tb, td, tg, ts, kt, kg, p1, p2, p3, p4, p5, p6, p7, p8⟩ := h2.ex
  exact ⟨x, C, dx, _, _, h1, p1, T.cl, T.nP, rfl, tp, _, rfl, p2.tb, strs_pvs fun y hy => (h3.pa y hy).asc⟩
theorem fld_begin (T : PlanK K C) : FldR K "begin" (iz (zPlan C) d) (iz (zT zI) d.begin) := fun F v ⟨x, h1, h2, h3⟩ => by
  obtain ⟨dx, tp, tb, td, tg, ts, kt, kg, p1, p2, p3, p4, p5, p6, p7, p8⟩ := h2.ex
  exact ⟨x, C, dx, _, _, h1, p1, T.cl, T.nB, rfl, tb, _, rfl, .inl p3, ints_pvs⟩
theorem fld_steps (T : PlanK K C) : FldR K "steps" (iz (zPlan C) d) (iz (zT zS) d.names) := fun F v ⟨x, h1, h2, h3⟩ => by
  obtain ⟨dx, tp, tb, td, tg, ts, kt, kg, p1, p2, p3, p4, p5, p6, p7, p8⟩ := h2.ex
  refine ⟨x, C, dx, _, _, h1, p1, T.cl, T.nS, rfl, ts, _, rfl, p6, strs_pvs fun y hy => ?_⟩
  obtain ⟨r, hr, rfl⟩ := List.mem_map.mp hy
  exact (h3.st r hr).1.asc
theorem fld_taken (T : PlanK K C) : FldR K "taken" (iz (zPlan C) d) (iz (zD (zT zS)) d.tk) := fun F v ⟨x, h1, h2, h3⟩ => by
  obtain ⟨dx, tp, tb, td, tg, ts, kt, kg, p1, p2, p3, p4, p5, p6, p7, p8⟩ := h2.ex
  refine ⟨x, C, dx, _, _, h1, p1, T.cl, T.nT, rfl, td, kt, rfl, p4, tab_kvs p7 fun r hr y hy => ?_⟩
  obtain ⟨s, hs, rfl⟩ := List.mem_map.mp hr
  exact (h3.pa y (h3.tk hs hy)).asc
theorem fld_given (T : PlanK K C) : FldR K "given" (iz (zPlan C) d) (iz (zD (zT zS)) d.gv) := fun F v ⟨x, h1, h2, h3⟩ => by
  obtain ⟨dx, tp, tb, td, tg, ts, kt, kg, p1, p2, p3, p4, p5, p6, p7, p8⟩ := h2.ex
  refine ⟨x, C, dx, _, _, h1, p1, T.cl, T.nG, rfl, tg, kg, rfl, p5, tab_kvs p8 fun r hr y hy => ?_⟩
  obtain ⟨s, hs, rfl⟩ := List.mem_map.mp hr
  exact (h3.pa y (h3.gv hs hy)).asc
/-- a plan is an instance; none of these is a field of it -/
theorem ins_plan {m : Str} (hm : ([("places", (0 : Nat)), ("begin", 0), ("taken", 0), ("given", 0), ("steps", 0)] : List (Str × Nat)).lookup m = none) : InsP fr Θ (iz (zPlan C) d) C m := fun F H v ok ⟨x, h1, h2, h3⟩ => by
  obtain ⟨dx, tp, tb, td, tg, ts, kt, kg, p1, p2, p3, p4, p5, p6, p7, p8⟩ := h2.ex
  refine ⟨x, dx, _, h1, ok.fh _ _ p1, ?_⟩
  simp only [List.lookup_cons] at hm ⊢
  revert hm
  cases (m == ("places" : Str)) <;> cases (m == ("begin" : Str)) <;> cases (m == ("taken" : Str)) <;> cases (m == ("given" : Str)) <;> cases (m == ("steps" : Str)) <;> simp
theorem PlanOk.tkn {d : PlanD} : d.tk.map (·.1) = d.names := by
  unfold PlanD.tk PlanD.names
  rw [List.map_map]
  rfl
theorem PlanOk.gvn {d : PlanD} : d.gv.map (·.1) = d.names := by
  unfold PlanD.gv PlanD.names
  rw [List.map_map]
  rfl
theorem PlanOk.tkr (h : PlanOk d) {r : SRow} (hr : r ∈ d.steps) : getR d.tk r.1 = some r.2.1 := getR_nodup (by rw [PlanOk.tkn]; exact h.sn) (List.mem_map.mpr ⟨r, hr, rfl⟩)
theorem PlanOk.gvr (h : PlanOk d) {r : SRow} (hr : r ∈ d.steps) : getR d.gv r.1 = some r.2.2 := getR_nodup (by rw [PlanOk.gvn]; exact h.sn) (List.mem_map.mpr ⟨r, hr, rfl⟩)
theorem plan_ok {F : Hp} {v : V} (h : (iz (zPlan C) d).p F v) : PlanOk d := by
  obtain ⟨_, _, _, h⟩ := h
  exact h
/-- all that is new is frozen -/
def newF (F H H' : Hp) : Hp := fun a => match H a with
  | none => H' a
  | some _ => F a
theorem newF_of (fh : Same F H) (hh : Same H H') : Same F (newF F H H') ∧ Same (newF F H H') H' ∧ Newer F H (newF F H H') := by
  refine ⟨fun a o h => ?_, fun a o h => ?_, fun a o h => ?_⟩
  · unfold newF
    rw [fh a o h]
    exact h
  · unfold newF at h
    cases q : H a with
    | none => rw [q] at h; exact h
    | some u => rw [q] at h; exact hh _ _ (fh _ _ h)
  · unfold newF at h
    cases q : H a with
    | none => exact .inr (.inl q)
    | some u => rw [q] at h; exact .inl ⟨o, h⟩
theorem newF_at {a : Addr} {o : HO} (n : H a = none) (h : H' a = some o) : newF F H H' a = some o := by
  unfold newF
  rw [n]
  exact h
end
/-- the class Plan and its name -/
structure PlanC (K : PySem.W.Frag) (mg : Str → Option Value) (C : Addr) : Prop where
  cl : Cls K C
  gC : mg "Plan" = some (.ref C)
  nP : NoAttr K C "places"
  nB : NoAttr K C "begin"
  nT : NoAttr K C "taken"
  nG : NoAttr K C "given"
  nS : NoAttr K C "steps"
section
variable {K : PySem.W.Frag} {mg : Str → Option Value} {C : Addr} {fr : Fr} {Θ : List Cel} {d : PlanD}
theorem PlanC.k (T : PlanC K mg C) : PlanK K C := ⟨T.cl, T.nP, T.nB, T.nT, T.nG, T.nS⟩
theorem fldP_places (T : PlanC K mg C) : FldP fr Θ K "places" (iz (zPlan C) d) (iz (zT zS) d.places) := (fld_places T.k).p
theorem fldP_begin (T : PlanC K mg C) : FldP fr Θ K "begin" (iz (zPlan C) d) (iz (zT zI) d.begin) := (fld_begin T.k).p
theorem fldP_steps (T : PlanC K mg C) : FldP fr Θ K "steps" (iz (zPlan C) d) (iz (zT zS) d.names) := (fld_steps T.k).p
theorem fldP_taken (T : PlanC K mg C) : FldP fr Θ K "taken" (iz (zPlan C) d) (iz (zD (zT zS)) d.tk) := (fld_taken T.k).p
theorem fldP_given (T : PlanC K mg C) : FldP fr Θ K "given" (iz (zPlan C) d) (iz (zD (zT zS)) d.gv) := (fld_given T.k).p
end
theorem is_var {fr : Fr} {Γ : Gam} {Θ : List Cel} {K : Vp → List Cel → Prop} {i : Nat} (h : We fr Γ Θ (tVar i) K) : We fr Γ Θ (tVar i) K := h
theorem is_cS {fr : Fr} {Γ : Gam} {Θ : List Cel} {K : Vp → List Cel → Prop} {z : Str} (h : We fr Γ Θ (tC (.str z)) K) : We fr Γ Θ (tC (.str z)) K := h
theorem asc_of {z : Str} (h : (z.cps.toList.all fun c => decide (c < 128)) = true) : Asc z := fun c hc => of_decide_eq_true (List.all_eq_true.mp h c hc)
end L2
set_option Elab.async false
set_option linter.all false
set_option maxRecDepth 100000
set_option maxHeartbeats 4000000
namespace L2
open PySem PySem.Spec PyProof.Rows PySem.HErr
section
variable {fr : Fr} {Γ Γ' : Gam} {Θ : List Cel} {F F' H H' : Hp} {K : Vp → List Cel → Prop} {Q : VK}
theorem wipe_sub {σ σ' : L2.St} {vs us : List Nat} (h : L2.wipe σ' vs = L2.wipe σ vs) (hs : ∀ v ∈ vs, v ∈ us) : L2.wipe σ' us = L2.wipe σ us := by
  have hl : σ'.length = σ.length := by
    have := congrArg List.length h
    rw [wipe_length, wipe_length] at this
    exact this
  apply List.ext_getElem?
  intro j
  have hj : (L2.wipe σ' vs)[j]? = (L2.wipe σ vs)[j]? := by rw [h]
  rw [wipe_get, wipe_get] at hj ⊢
  rw [hl] at hj ⊢
  by_cases h1 : j ∈ us ∧ j < σ.length
  · rw [if_pos h1, if_pos h1]
  · rw [if_neg h1, if_neg h1]
    have h2 : ¬ (j ∈ vs ∧ j < σ.length) := fun q => h1 ⟨hs j q.1, q.2⟩
    rw [if_neg h2, if_neg h2] at hj
    exact hj
theorem TgR.sub {g : TG} {vs us : List Nat} {p : Vp} (h : TgR g vs p Γ Γ') (hs : ∀ v ∈ vs, v ∈ us) : TgR g us p Γ Γ' := fun σ F H v fh env hp Q q => h σ F H v fh env hp Q fun σ' e hw => q σ' e (wipe_sub hw hs)
theorem we_nil {α : Type} (r : Rep α) (k : ∀ a, K (zAt a) (cL a r [] :: Θ)) : We fr Γ Θ (tLst tNil) K := we_own r (wa_nil ⟨[], rfl, by decide, k⟩)
theorem mem_intsF {n : Nat} {k : Int} (h : k ∈ intsF 0 n) : ∃ j : Nat, j < n ∧ k = j := by
  unfold intsF at h
  obtain ⟨j, hj, e⟩ := List.mem_map.mp h
  exact ⟨j, List.mem_range.mp hj, by omega⟩
end
end L2
set_option Elab.async false
set_option linter.all false
set_option maxRecDepth 100000
set_option maxHeartbeats 4000000
namespace L2
open PySem PySem.Spec PyProof.Rows PySem.HErr
section
variable {fr : Fr} {Γ Γ' : Gam} {Θ Θ' : List Cel} {F F' H H' : Hp} {K : Vp → List Cel → Prop} {Q : VK}
theorem OkF.perm (k : OkF fr Θ F H) (p : Θ.Perm Θ') : OkF fr Θ' F H := ⟨k.fh, k.f0, k.nw, k.h0, k.al, (p.map Cel.a).nodup_iff.mp k.nd, fun c hc => k.ce c (p.mem_iff.mpr hc)⟩
theorem Kn.perm {P : L2.St → Hp → Prop} (k : Kn fr Γ Θ' P) (p : Θ.Perm Θ') : Kn fr Γ Θ P := fun σ F H ok env => k σ F H (ok.perm p) env
def cells {α : Type} (r : Rep α) (as : List Addr) (ls : List (List α)) : List Cel := (as.zip ls).map fun x => cL x.1 r x.2
end
end L2
set_option Elab.async false
set_option linter.all false
set_option maxRecDepth 100000
set_option maxHeartbeats 4000000
namespace L2
open PySem PySem.Spec PyProof.Rows PySem.HErr
/-- an instance of one's own -/
def cI (a C dx : Addr) (fs : List (Str × Vp)) : Cel := ⟨a, true, fun F o => ∃ us, o = .ins C dx us ∧ FsOk F fs us, fun e ⟨us, h1, h2⟩ => ⟨us, h1, h2.mono e⟩, fun h e => by subst e; simp at h⟩
def putP (f : Str) (p : Vp) : List (Str × Vp) → List (Str × Vp)
  | [] => [(f, p)]
  | (g, q) :: r => if g = f then (g, p) :: r else (g, q) :: putP f p r
section
variable {fr : Fr} {Γ Γ' : Gam} {Θ Θ' : List Cel} {F F' H H' : Hp} {K : Vp → List Cel → Prop} {Q : VK}
theorem FsOk.put {f : Str} {p : Vp} {v : V} (hp : p.p F v) : ∀ {fs : List (Str × Vp)} {us : List (Str × V)}, FsOk F fs us → FsOk F (putP f p fs) (putF f v us)
  | _, _, .nil => .cons ⟨rfl, hp⟩ .nil
  | (g, q) :: fs, (g', u) :: us, .cons ⟨h1, h2⟩ r => by
    have h1 : g = g' := h1
    subst h1
    unfold putP putF
    by_cases e : g = f
    · rw [if_pos e, if_pos e]
      exact .cons ⟨rfl, hp⟩ r
    · rw [if_neg e, if_neg e]
      exact .cons ⟨rfl, h2⟩ (FsOk.put hp r)
/-- self.f = e -/
theorem kn_fldPut {Kf : PySem.W.Frag} {f : Str} {ta tv : TE} {D : Ends} (w : We fr Γ Θ tv fun p Θ1 => We fr Γ Θ1 ta fun q Θ2 => ∃ a C dx fs j, q = zAt a ∧ Θ2[j]? = some (cI a C dx fs) ∧ Cls Kf C ∧ NoAttr Kf C f ∧ fs.length < 1000 ∧ Kn fr Γ (Θ2.set j (cI a C dx (putP f p fs))) D.nx) : Kn fr Γ Θ (sFld Kf ta tv f D) := fun σ F H ok env =>
  w σ F H ok env _ fun p Θ1 k v F1 H1 s1 ok1 hp => k σ F1 H1 ok1 (env.mono s1) _ fun p2 Θ2 ⟨a, C, dx, fs, j, e, hj, hc, hn, hl, kk⟩ v2 F2 H2 s2 ok2 hp2 => by
    subst e
    obtain ⟨_, ⟨o, h2, us, rfl, h4⟩, _⟩ := ok2.ce _ (List.mem_of_getElem? hj)
    exact ⟨a, C, dx, us, hp2, h2, hc, hn, by rw [← Paired.len h4]; exact hl, kk σ F2 _ (ok2.mut hj rfl rfl ⟨_, rfl, h4.put (p.mono s2 hp)⟩) ((env.mono s1).mono s2)⟩
theorem fld_C {Kf : PySem.W.Frag} {f : Str} {a C dx : Addr} {fs : List (Str × Vp)} {q : Vp} (hc : cI a C dx fs ∈ Θ) (h3 : Cls Kf C) (h4 : NoAttr Kf C f) (h5 : fs.lookup f = some q) : FldP fr Θ Kf f (zAt a) q := fun F H v ok hv => by
  obtain ⟨_, ⟨o, h2, us, rfl, h6⟩, _⟩ := ok.ce _ hc
  obtain ⟨u, h7, h8⟩ := h6.look h5
  exact ⟨a, C, dx, us, u, hv, h2, h3, h4, h7, h8⟩
def minus (H : Hp) (x : Addr) : Hp := fun a => if a = x then none else H a
theorem minus_ne {x a : Addr} (h : a ≠ x) : minus H x a = H a := if_neg h
theorem minus_self {x : Addr} : minus H x x = none := if_pos rfl
/-- what __init__ promises: out tells what the instance at x then is -/
def spI (C : Addr) (pre : Pre) : Sp := fun vs H Q E => ∃ x dx vs' F ps out err, vs = .ref x :: vs' ∧ H x = some (.ins C dx []) ∧ F x = none ∧ Same F H ∧ Paired (fun (p : Vp) v => p.p F v) ps vs' ∧ pre ps out err ∧
  (∀ p, out p → ∀ F' H', Same (minus H x) H' → Same F F' → Same F' H' → Newer F (minus H x) F' → p.p F' (.ref x) → Q .non H') ∧ (∀ e, err e → ∀ F' H' d us, Same (minus H x) H' → Same F F' → Same F' H' → Newer F (minus H x) F' → F' d = some (.xd us) → FsOk F' e.fs us → E (.ref e.C) (some d) H')
theorem we_mk {C : Addr} {pre : Pre} {E : L2.St → XK} {t : TA} (w : Wa fr Γ Θ t fun ps Θ1 => ∃ out err, pre ps out err ∧ (∀ p, out p → K p Θ1) ∧ ∀ e, err e → Kr fr Γ Θ1 (fun cls d σ H => E σ cls d H) e) : We fr Γ Θ (tMkD C (spI C pre) E t) K := fun σ F H ok env Q q =>
  w σ F H ok env _ fun ps Θ1 ⟨out, err, hp, ko, ke⟩ vs F1 H1 s1 ok1 hps => fun x dx nx ndx ne => by
    have hs : Same H1 (upd (upd H1 dx (.own x)) x (.ins C dx [])) := (same_upd ndx).trans (same_upd (by rw [upd_ne (Ne.symm ne)]; exact nx))
    have hm : ∀ {H' : Hp}, Same (minus (upd (upd H1 dx (.own x)) x (.ins C dx [])) x) H' → Same H1 H' := fun h a o e => h a o (by rw [minus_ne (ne_of_none e nx)]; exact hs a o e)
    have hn : ∀ {F' : Hp}, Newer F1 (minus (upd (upd H1 dx (.own x)) x (.ins C dx [])) x) F' → Newer F1 H1 F' := fun h a o e => by
      rcases h a o e with h' | h'
      · exact .inl h'
      · refine .inr (h'.elim (fun h' => ?_) .inr)
        by_cases ea : a = x
        · rw [ea]; exact .inl nx
        · rw [minus_ne ea] at h'
          exact .inl (hs.free h')
    refine ⟨x, dx, vs, F1, ps, out, err, rfl, upd_same, ok1.fh.free nx, ok1.fh.trans hs, hps, hp, fun p ho F' H' hh ff fh nw hv => ⟨rfl, ?_⟩, fun e he F' H' d us hh ff fh nw hd hf => ?_⟩
    · exact q p Θ1 (ko p ho) _ F' H' (s1.trans ff) (ok1.grow (hm hh) ff fh (hn nw)) hv
    · exact ke e he σ F' H' (ok1.grow (hm hh) ff fh (hn nw)) ((env.mono s1).mono ff) d us hd hf
theorem okf_init {x C dx : Addr} (hx : H x = some (.ins C dx [])) (fx : F x = none) (fh : Same F H) : OkF ⟨F, minus H x, []⟩ [cI x C dx []] F H := by
  refine ⟨fh, Same.refl F, fun a o h => .inl ⟨o, h⟩, fun a o _ h => ?_, fun a o h => ?_, by simp, fun c hc => ?_⟩
  · have h : minus H x a = some o := h
    by_cases e : a = x
    · rw [e, minus_self] at h; cases h
    · rw [minus_ne e] at h; exact h
  · have h : minus H x a = some o := h
    by_cases e : a = x
    · rw [e, minus_self] at h; cases h
    · rw [minus_ne e] at h; exact ⟨o, h⟩
  · rw [List.mem_singleton.mp hc]
    exact ⟨fx, ⟨_, hx, [], rfl, .nil⟩, minus_self⟩
end
section
variable {P : Program} {w : World} {K : PySem.W.Frag} {mg : Str → Option Value} {base : Heap} {qual : Str} {C : Addr} {st : Stmt} {N ps : List Str} {k : Nat} {pre : Pre}
/-- the body of __init__: at its end the instance is what out says -/
theorem SrcI.okAX (F : SrcI K C qual st ps) (S : FnScope N ps (defScope st)) (len : ∀ qs out err, pre qs out err → qs.length + 1 = ps.length)
    (hbody : ∀ (f : Addr) (cdv : Value) (A : Around) (outer : List Env) (s : Shared) (H : Hp) (E : XK) (qs : List Vp) (out : Vp → Prop) (err : Er → Prop), Room k (A.deeper (envOfC qual (defScope st) s.heap.objs.size f cdv)) → pre qs out err →
      ∃ t, PSs (cxOf (L2.CX P w) P w K mg base N qual (defScope st) f cdv A outer s H E) (defBody st) t ∧ ∀ fr x dx (Q : L2.St → Hp → Prop) (rt : VK), (∀ p, out p → ∀ σ F H, (∃ Θ, OkF fr Θ F H) → p.p F (.ref x) → Q σ H) → (∀ p, out p → ∀ F H, (∃ Θ, OkF fr Θ F H) → p.p F (.ref x) → rt .non H) → Rse fr E err →
        Kn fr (envOf N (zAt x :: qs)) [cI x C dx []] (t { nx := Q, rt := rt })) : DefI P w K mg base (L2.CX P w) (k + 1) C ps (spI C pre) := by
  refine F.okX S (fun vs H Q E h => ?_) (fun f cdv A outer s H vs Q E hr h => ?_)
  · obtain ⟨x, dx, vs', F, qs, out, err, rfl, _, _, _, h2, h3, _⟩ := h
    rw [List.length_cons, ← Paired.len h2]
    exact len _ _ _ h3
  · obtain ⟨x, dx, vs', F, qs, out, err, rfl, hx, fx, fh, h2, h3, h4, h5⟩ := h
    obtain ⟨t, ht, hk⟩ := hbody f cdv A outer s H E qs out err hr h3
    have post : ∀ {Θ : List Cel} {F' H' : Hp}, OkF ⟨F, minus H x, []⟩ Θ F' H' → Same (minus H x) H' ∧ Same F F' ∧ Same F' H' ∧ Newer F (minus H x) F' := fun ok => ⟨fun a o h => ok.h0 a o (by simp) h, ok.f0, ok.fh, ok.nw⟩
    have c1 : ∀ p, out p → ∀ (σ : L2.St) F' H', (∃ Θ, OkF ⟨F, minus H x, []⟩ Θ F' H') → p.p F' (.ref x) → Q .non H' := fun p hp σ F' H' ⟨Θ, ok⟩ hv => by
      obtain ⟨a, b, c, d⟩ := post ok
      exact h4 p hp F' H' a b c d hv
    have c2 : Rse ⟨F, minus H x, []⟩ E err := fun e he Θ F' H' d us ok hd hf => by
      obtain ⟨a, b, c, n⟩ := post ok
      exact h5 e he F' H' d us a b c n hd hf
    exact ⟨t, ht, hk ⟨F, minus H x, []⟩ x dx (fun _ H' => Q .non H') Q c1 (fun p hp F' H' => c1 p hp [] F' H') c2 _ F H (okf_init hx fx fh) (env_start (vs := .ref x :: vs') (.cons rfl h2))⟩
end
section
variable {F F' H H' : Hp} {E : XK} {err : Er → Prop}
/-- fields that are plain stand anywhere -/
theorem PErs.rais {C : Addr} {fs : List (Str × Vp)} {us : List (Str × V)} (h : PErs F H E err) (fh : Same F H) (he : err ⟨C, fs⟩) (hf : ∀ F', FsOk F' fs us) : Rais E H C us := fun H' d sm nd hd => by
  obtain ⟨n1, n2, n3⟩ := newF_of fh sm
  exact h _ he _ H' d us sm n1 n2 n3 (newF_at nd hd) (hf _)
theorem fs1S {f : Str} {z : Str} (h : Asc z) : ∀ F', FsOk F' [(f, iz zS z)] [(f, .str z)] := fun _ => .cons ⟨rfl, rfl, h⟩ .nil
theorem fs1I {f : Str} {n : Int} : ∀ F', FsOk F' [(f, iz zI n)] [(f, .int n)] := fun _ => .cons ⟨rfl, rfl⟩ .nil
theorem Post.flat {Q : VK} {out : Vp → Prop} {p : Vp} {v : V} (h : Post F H Q out) (fh : Same F H) (hp : out p) (hf : ∀ F', p.p F' v) (hh : Same H H') : Q v H' := h p hp v F H' hh (Same.refl F) (fh.trans hh) (Newer.refl _ _) (hf F)
theorem Post.new {Q : VK} {out : Vp → Prop} {p : Vp} {v : V} (h : Post F H Q out) (fh : Same F H) (hp : out p) (hh : Same H H') (hf : p.p (newF F H H') v) : Q v H' := by
  obtain ⟨n1, n2, n3⟩ := newF_of fh hh
  exact h p hp v _ H' hh n1 n2 n3 hf
end
end L2
set_option Elab.async false
set_option linter.all false
set_option maxRecDepth 100000
set_option maxHeartbeats 4000000
namespace L2
open PySem PySem.Spec PyProof.Rows PySem.HErr
def tagC (c : Cel) : Addr × Bool := (c.a, c.own)
def CellsAt (F H : Hp) (Θ : List Cel) : Prop := (Θ.map Cel.a).Nodup ∧ ∀ c ∈ Θ, F c.a = none ∧ ∃ o, H c.a = some o ∧ c.φ F o
def SameX (as : List Addr) (H H' : Hp) : Prop := ∀ a o, a ∉ as → H a = some o → H' a = some o
def minusL (H : Hp) (as : List Addr) : Hp := fun a => if a ∈ as then none else H a
abbrev PreC := List Vp → List Cel → (Vp → List Cel → Prop) → (Er → List Cel → Prop) → Prop
structure Eff (F H : Hp) (Θ : List Cel) (F' H' : Hp) (Θ' : List Cel) : Prop where
  hh : SameX (Θ.map Cel.a) H H'
  ff : Same F F'
  fh : Same F' H'
  nw : Newer F H F'
  ca : CellsAt F' H' Θ'
  tg : Θ'.map tagC = Θ.map tagC
def spC (pre : PreC) : Sp := fun vs H Q E => ∃ F ps Θ out err, Same F H ∧ CellsAt F H Θ ∧ Paired (fun (p : Vp) v => p.p F v) ps vs ∧ pre ps Θ out err ∧
  (∀ p Θ', out p Θ' → ∀ v F' H', Eff F H Θ F' H' Θ' → p.p F' v → Q v H') ∧ (∀ e Θ', err e Θ' → ∀ F' H' d us, Eff F H Θ F' H' Θ' → F' d = some (.xd us) → FsOk F' e.fs us → E (.ref e.C) (some d) H')
section
variable {fr : Fr} {Γ Γ' : Gam} {Θ Θ' Θl Θr : List Cel} {F F' H H' : Hp} {K : Vp → List Cel → Prop} {Q : VK}
theorem tag_a (h : Θ'.map tagC = Θ.map tagC) : Θ'.map Cel.a = Θ.map Cel.a := by
  have := congrArg (List.map Prod.fst) h
  rw [List.map_map, List.map_map] at this
  exact this
theorem tag_mem (h : Θ'.map tagC = Θ.map tagC) {c : Cel} (hc : c ∈ Θ') : ∃ d ∈ Θ, d.a = c.a ∧ d.own = c.own := by
  have : tagC c ∈ Θ.map tagC := by rw [← h]; exact List.mem_map.mpr ⟨c, hc, rfl⟩
  obtain ⟨d, hd, e⟩ := List.mem_map.mp this
  exact ⟨d, hd, (Prod.mk.inj e).1, (Prod.mk.inj e).2⟩
theorem OkF.cellsAt (k : OkF fr (Θl ++ Θr) F H) : CellsAt F H Θl := by
  have := k.nd
  rw [List.map_append, List.nodup_append] at this
  exact ⟨this.1, fun c hc => by
    obtain ⟨h1, h2, _⟩ := k.ce c (List.mem_append_left _ hc)
    exact ⟨h1, h2⟩⟩
theorem OkF.eff (k : OkF fr (Θl ++ Θr) F H) (e : Eff F H Θl F' H' Θ') : OkF fr (Θ' ++ Θr) F' H' := by
  have ea := tag_a e.tg
  have hB : ∀ c ∈ Θl ++ Θr, ∀ a o, a ∉ fr.B → fr.H0 a = some o → a ≠ c.a := fun c hc a o hb h q => by
    obtain ⟨_, _, h4⟩ := k.ce c hc
    cases ho : c.own with
    | true =>
      rw [if_pos ho] at h4
      rw [q, h4] at h
      cases h
    | false =>
      rw [if_neg (by rw [ho]; exact Bool.false_ne_true)] at h4
      rw [q] at hb
      exact hb h4
  have nl : ∀ a o, a ∉ fr.B → fr.H0 a = some o → a ∉ Θl.map Cel.a := fun a o hb h q => by
    obtain ⟨c, hc, e⟩ := List.mem_map.mp q
    exact hB c (List.mem_append_left _ hc) a o hb h e.symm
  refine ⟨e.fh, k.f0.trans e.ff, fun a o h => ?_, fun a o hb h => ?_, fun a o h => ?_, ?_, fun c hc => ?_⟩
  · exact k.nwr e.ff h (e.nw a o h)
  · exact e.hh a o (nl a o hb h) (k.h0 a o hb h)
  · by_cases q : a ∈ Θl.map Cel.a
    · rw [← ea] at q
      obtain ⟨c, hc, e1⟩ := List.mem_map.mp q
      obtain ⟨_, o', h', _⟩ := e.ca.2 c hc
      exact ⟨o', by rw [← e1]; exact h'⟩
    · obtain ⟨o', h'⟩ := k.al a o h
      exact ⟨o', e.hh a o' q h'⟩
  · rw [List.map_append, ea, ← List.map_append]
    exact k.nd
  · rcases List.mem_append.mp hc with hc | hc
    · obtain ⟨h1, h2⟩ := e.ca.2 c hc
      refine ⟨h1, h2, ?_⟩
      obtain ⟨d, hd, e1, e2⟩ := tag_mem e.tg hc
      have := (k.ce d (List.mem_append_left _ hd)).2.2
      rw [e1, e2] at this
      exact this
    · obtain ⟨h1, ⟨u, h2, h3⟩, h4⟩ := k.ce c (List.mem_append_right _ hc)
      have ne : c.a ∉ Θl.map Cel.a := fun q => by
        have := k.nd
        rw [List.map_append, List.nodup_append] at this
        exact this.2.2 _ q _ (List.mem_map.mpr ⟨c, hc, rfl⟩) rfl
      refine ⟨?_, ⟨u, e.hh _ _ ne h2, c.mono e.ff h3⟩, h4⟩
      cases q : F' c.a with
      | none => rfl
      | some o =>
        rcases e.nw _ _ q with ⟨o', h'⟩ | h' | ⟨vs, ht⟩
        · rw [h1] at h'
          cases h'
        · rw [h2] at h'
          cases h'
        · have e1 := e.fh _ _ q
          rw [e.hh _ _ ne h2] at e1
          exact (c.nt h3 ((Option.some.inj e1).trans ht)).elim
theorem sps_C {pre : PreC} {E : L2.St → XK} {ps : List Vp} {out : Vp → List Cel → Prop} {err : Er → List Cel → Prop} (hp : pre ps Θl out err) (pm : Θ.Perm (Θl ++ Θr)) (k : ∀ p Θ', out p Θ' → K p (Θ' ++ Θr)) (x : ∀ e Θ', err e Θ' → Kr fr Γ (Θ' ++ Θr) (fun cls d σ H => E σ cls d H) e) : Sps fr Γ Θ (spC pre) E ps K := fun σ F H vs ok env hps Q q => by
  have ok := ok.perm pm
  exact ⟨F, ps, Θl, out, err, ok.fh, ok.cellsAt, hps, hp, fun p Θ' ho v F' H' ef h => q p _ (k p Θ' ho) v F' H' ef.ff (ok.eff ef) h,
    fun e Θ' he F' H' d us ef hd hf => x e Θ' he σ F' H' (ok.eff ef) (env.mono ef.ff) d us hd hf⟩
theorem okf_lent (fh : Same F H) (hc : CellsAt F H Θ) (ho : ∀ c ∈ Θ, c.own = true) : OkF ⟨F, minusL H (Θ.map Cel.a), []⟩ Θ F H := by
  refine ⟨fh, Same.refl F, fun a o h => .inl ⟨o, h⟩, fun a o _ h => ?_, fun a o h => ?_, hc.1, fun c hm => ?_⟩
  · have h : minusL H (Θ.map Cel.a) a = some o := h
    unfold minusL at h
    split at h
    · cases h
    · exact h
  · have h : minusL H (Θ.map Cel.a) a = some o := h
    unfold minusL at h
    split at h
    · cases h
    · exact ⟨o, h⟩
  · obtain ⟨h1, h2⟩ := hc.2 c hm
    refine ⟨h1, h2, ?_⟩
    rw [if_pos (ho c hm)]
    show minusL H (Θ.map Cel.a) c.a = none
    unfold minusL
    rw [if_pos (List.mem_map.mpr ⟨c, hm, rfl⟩)]
/-- Θ'' holds the cells Θ' (and others, which are let go) -/
theorem eff_of {Θ'' Θx : List Cel} (hc : CellsAt F H Θ) (ok : OkF ⟨F, minusL H (Θ.map Cel.a), []⟩ Θ'' F' H') (pm : Θ''.Perm (Θ' ++ Θx)) (tg : Θ'.map tagC = Θ.map tagC) : Eff F H Θ F' H' Θ' := by
  refine ⟨fun a o hn h => ok.h0 a o (by simp) ?_, ok.f0, ok.fh, fun a o h => ?_, (ok.perm pm).cellsAt, tg⟩
  · show minusL H (Θ.map Cel.a) a = some o
    unfold minusL
    rw [if_neg hn]
    exact h
  · rcases ok.nw a o h with h' | h' | h'
    · exact .inl h'
    · have h' : minusL H (Θ.map Cel.a) a = none := h'
      unfold minusL at h'
      split at h'
      · rename_i q
        rw [← tag_a tg] at q
        obtain ⟨c, hc', e⟩ := List.mem_map.mp q
        obtain ⟨h1, _⟩ := (ok.perm pm).cellsAt.2 c hc'
        rw [e, h] at h1
        cases h1
      · exact .inr (.inl h')
    · exact .inr (.inr h')
/-- what a def with lent cells returns: the cells Θ' are there then -/
def RetC (fr : Fr) (Q : VK) (tg : List (Addr × Bool)) (out : Vp → List Cel → Prop) : Prop := ∀ p Θ', out p Θ' → Θ'.map tagC = tg → ∀ Θ'' Θx, Θ''.Perm (Θ' ++ Θx) → Rt fr Θ'' Q p
def RseC (fr : Fr) (E : XK) (tg : List (Addr × Bool)) (err : Er → List Cel → Prop) : Prop := ∀ e Θ', err e Θ' → Θ'.map tagC = tg → ∀ Θ'' Θx, Θ''.Perm (Θ' ++ Θx) → ∀ F H d us, OkF fr Θ'' F H → F d = some (.xd us) → FsOk F e.fs us → E (.ref e.C) (some d) H
theorem RetC.fine {fr' : Fr} {tg : List (Addr × Bool)} {out : Vp → List Cel → Prop} (h : RetC fr Q tg out) (l : FrLe fr fr') : RetC fr' Q tg out := fun p Θ' ho ht Θ'' Θx pm => (h p Θ' ho ht Θ'' Θx pm).fine l
theorem RseC.fine {fr' : Fr} {E : XK} {tg : List (Addr × Bool)} {err : Er → List Cel → Prop} (h : RseC fr E tg err) (l : FrLe fr fr') : RseC fr' E tg err := fun e Θ' he ht Θ'' Θx pm F H d us ok => h e Θ' he ht Θ'' Θx pm F H d us (ok.le l)
theorem kr_C {E : XK} {tg : List (Addr × Bool)} {err : Er → List Cel → Prop} {e : Er} {Θx : List Cel} (h : RseC fr E tg err) (he : err e Θ') (ht : Θ'.map tagC = tg) (pm : Θ.Perm (Θ' ++ Θx)) : Kr fr Γ Θ (fun cls d _ H => E cls d H) e := fun σ F H ok env d us hd hf => h e Θ' he ht Θ Θx pm F H d us ok hd hf
end
section
variable {P : Program} {w : World} {K : PySem.W.Frag} {mg : Str → Option Value} {base : Heap} {x m qual : Str} {C : Addr} {st : Stmt} {N ps : List Str} {k : Nat} {pre : PreC}
theorem Src.okC (F : Src K mg x st ps) (S : FnScope N ps (defScope st)) (len : ∀ qs Θ out err, pre qs Θ out err → qs.length = ps.length ∧ ∀ c ∈ Θ, c.own = true)
    (hbody : ∀ (f : Addr) (cdv : Value) (A : Around) (outer : List Env) (s : Shared) (H : Hp) (E : XK) (qs : List Vp) (Θ : List Cel) (out : Vp → List Cel → Prop) (err : Er → List Cel → Prop), Room k (A.deeper (envOfC x (defScope st) s.heap.objs.size f cdv)) → pre qs Θ out err →
      ∃ t, PSs (cxOf CX0 P w K mg base N x (defScope st) f cdv A outer s H E).nox (defBody st) t ∧ ∀ fr Q, RetC fr Q (Θ.map tagC) out → Kn fr (envOf N qs) Θ (t { nx := fun _ H' => Q .non H', rt := Q })) : Def P w K mg base CX0 (k + 1) x ps (spC pre) := by
  refine F.ok S (fun vs H Q E h => ?_) (fun f cdv A outer s H vs Q E hr h => ?_)
  · obtain ⟨F, qs, Θ, out, err, _, _, h2, h3, _⟩ := h
    rw [← Paired.len h2]
    exact (len _ _ _ _ h3).1
  · obtain ⟨F, qs, Θ, out, err, h1, hc, h2, h3, h4, h5⟩ := h
    obtain ⟨t, ht, hk⟩ := hbody f cdv A outer s H E qs Θ out err hr h3
    exact ⟨t, ht, hk ⟨F, minusL H (Θ.map Cel.a), []⟩ Q (fun p Θ' ho tg Θ'' Θx pm v F' H' ok hv => h4 p Θ' ho v F' H' (eff_of hc ok pm tg) hv) _ F H (okf_lent h1 hc (len _ _ _ _ h3).2) (env_start h2)⟩
theorem Src.okCX (F : Src K mg x st ps) (S : FnScope N ps (defScope st)) (len : ∀ qs Θ out err, pre qs Θ out err → qs.length = ps.length ∧ ∀ c ∈ Θ, c.own = true)
    (hbody : ∀ (f : Addr) (cdv : Value) (A : Around) (outer : List Env) (s : Shared) (H : Hp) (E : XK) (qs : List Vp) (Θ : List Cel) (out : Vp → List Cel → Prop) (err : Er → List Cel → Prop), Room k (A.deeper (envOfC x (defScope st) s.heap.objs.size f cdv)) → pre qs Θ out err →
      ∃ t, PSs (cxOf (L2.CX P w) P w K mg base N x (defScope st) f cdv A outer s H E) (defBody st) t ∧ ∀ fr Q, RetC fr Q (Θ.map tagC) out → RseC fr E (Θ.map tagC) err → Kn fr (envOf N qs) Θ (t { nx := fun _ H' => Q .non H', rt := Q })) : Def P w K mg base (L2.CX P w) (k + 1) x ps (spC pre) := by
  refine F.okX S (fun vs H Q E h => ?_) (fun f cdv A outer s H vs Q E hr h => ?_)
  · obtain ⟨F, qs, Θ, out, err, _, _, h2, h3, _⟩ := h
    rw [← Paired.len h2]
    exact (len _ _ _ _ h3).1
  · obtain ⟨F, qs, Θ, out, err, h1, hc, h2, h3, h4, h5⟩ := h
    obtain ⟨t, ht, hk⟩ := hbody f cdv A outer s H E qs Θ out err hr h3
    exact ⟨t, ht, hk ⟨F, minusL H (Θ.map Cel.a), []⟩ Q (fun p Θ' ho tg Θ'' Θx pm v F' H' ok hv => h4 p Θ' ho v F' H' (eff_of hc ok pm tg) hv) (fun e Θ' he tg Θ'' Θx pm F' H' d us ok hd hf => h5 e Θ' he F' H' d us (eff_of hc ok pm tg) hd hf) _ F H (okf_lent h1 hc (len _ _ _ _ h3).2) (env_start h2)⟩
theorem SrcM.okCX (F : SrcM K C m qual st ps) (S : FnScope N ps (defScope st)) (len : ∀ qs Θ out err, pre qs Θ out err → qs.length = ps.length ∧ ∀ c ∈ Θ, c.own = true)
    (hbody : ∀ (f : Addr) (cdv : Value) (A : Around) (outer : List Env) (s : Shared) (H : Hp) (E : XK) (qs : List Vp) (Θ : List Cel) (out : Vp → List Cel → Prop) (err : Er → List Cel → Prop), Room k (A.deeper (envOfC qual (defScope st) s.heap.objs.size f cdv)) → pre qs Θ out err →
      ∃ t, PSs (cxOf (L2.CX P w) P w K mg base N qual (defScope st) f cdv A outer s H E) (defBody st) t ∧ ∀ fr Q, RetC fr Q (Θ.map tagC) out → RseC fr E (Θ.map tagC) err → Kn fr (envOf N qs) Θ (t { nx := fun _ H' => Q .non H', rt := Q })) : DefM P w K mg base (L2.CX P w) (k + 1) C m ps (spC pre) := by
  refine F.okX S (fun vs H Q E h => ?_) (fun f cdv A outer s H vs Q E hr h => ?_)
  · obtain ⟨F, qs, Θ, out, err, _, _, h2, h3, _⟩ := h
    rw [← Paired.len h2]
    exact (len _ _ _ _ h3).1
  · obtain ⟨F, qs, Θ, out, err, h1, hc, h2, h3, h4, h5⟩ := h
    obtain ⟨t, ht, hk⟩ := hbody f cdv A outer s H E qs Θ out err hr h3
    exact ⟨t, ht, hk ⟨F, minusL H (Θ.map Cel.a), []⟩ Q (fun p Θ' ho tg Θ'' Θx pm v F' H' ok hv => h4 p Θ' ho v F' H' (eff_of hc ok pm tg) hv) (fun e Θ' he tg Θ'' Θx pm F' H' d us ok hd hf => h5 e Θ' he F' H' d us (eff_of hc ok pm tg) hd hf) _ F H (okf_lent h1 hc (len _ _ _ _ h3).2) (env_start h2)⟩
theorem SrcM.okC (F : SrcM K C m qual st ps) (S : FnScope N ps (defScope st)) (len : ∀ qs Θ out err, pre qs Θ out err → qs.length = ps.length ∧ ∀ c ∈ Θ, c.own = true)
    (hbody : ∀ (f : Addr) (cdv : Value) (A : Around) (outer : List Env) (s : Shared) (H : Hp) (E : XK) (qs : List Vp) (Θ : List Cel) (out : Vp → List Cel → Prop) (err : Er → List Cel → Prop), Room k (A.deeper (envOfC qual (defScope st) s.heap.objs.size f cdv)) → pre qs Θ out err →
      ∃ t, PSs (cxOf CX0 P w K mg base N qual (defScope st) f cdv A outer s H E).nox (defBody st) t ∧ ∀ fr Q, RetC fr Q (Θ.map tagC) out → Kn fr (envOf N qs) Θ (t { nx := fun _ H' => Q .non H', rt := Q })) : DefM P w K mg base CX0 (k + 1) C m ps (spC pre) := by
  refine F.ok S (fun vs H Q E h => ?_) (fun f cdv A outer s H vs Q E hr h => ?_)
  · obtain ⟨F, qs, Θ, out, err, _, _, h2, h3, _⟩ := h
    rw [← Paired.len h2]
    exact (len _ _ _ _ h3).1
  · obtain ⟨F, qs, Θ, out, err, h1, hc, h2, h3, h4, h5⟩ := h
    obtain ⟨t, ht, hk⟩ := hbody f cdv A outer s H E qs Θ out err hr h3
    exact ⟨t, ht, hk ⟨F, minusL H (Θ.map Cel.a), []⟩ Q (fun p Θ' ho tg Θ'' Θx pm v F' H' ok hv => h4 p Θ' ho v F' H' (eff_of hc ok pm tg) hv) _ F H (okf_lent h1 hc (len _ _ _ _ h3).2) (env_start h2)⟩
end
end L2
set_option Elab.async false
set_option linter.all false
set_option maxRecDepth 100000
set_option maxHeartbeats 4000000
namespace L2
open PySem PySem.Spec PyProof.Rows PySem.HErr
def zTy (n : String) : Vp := ⟨fun _ v => v = .ty n, fun _ h => h⟩
section
variable {fr : Fr} {Γ Γ' : Gam} {Θ Θ' : List Cel} {F F' H H' : Hp} {K : Vp → List Cel → Prop} {Q : VK} {Kf : PySem.W.Frag}
theorem we_cT {n : String} (k : K (zTy n) Θ) : We fr Γ Θ (tC (.ty n)) K := we_c (fun _ => rfl) k
theorem we_cR {a : Addr} (k : K (zAt a) Θ) : We fr Γ Θ (tC (.ref a)) K := we_c (fun _ => rfl) k
def TyP (fr : Fr) (Θ : List Cel) (Kf : PySem.W.Frag) (p : Vp) (t : Value) : Prop := ∀ F H v, OkF fr Θ F H → p.p F v → TyX Kf H v t
theorem ty_L {α : Type} {r : Rep α} {xs : List α} : TyP fr Θ Kf (iz (zL r) xs) (.type "list") := fun F H v ok ⟨a, vs, h1, h2, h3⟩ => by subst h1; exact .base (.lst (ok.fh _ _ h2))
theorem ty_T {α : Type} [TNar α] {r : Rep α} {xs : List α} : TyP fr Θ Kf (iz (zT r) xs) (.type "tuple") := fun F H v ok ⟨a, vs, h1, h2, h3⟩ => by
  subst h1
  rcases h2 with h2 | ⟨_, o, h2, _⟩
  · exact .base (.tup (ok.fh _ _ h2))
  · exact .fTuple (ok.fh _ _ h2)
theorem ty_2 {α β : Type} {r : Rep α} {s : Rep β} {x : α × β} : TyP fr Θ Kf (iz (z2 r s) x) (.type "tuple") := fun F H v ok ⟨a, u, w, h1, h2, h3⟩ => by subst h1; exact .base (.tup (ok.fh _ _ h2))
theorem ty_I {n : Int} : TyP fr Θ Kf (iz zI n) (.type "int") := fun F H v ok h => by cases (show v = V.int n from h); exact .base (.int _)
theorem ty_B {n : Bool} : TyP fr Θ Kf (iz zB n) (.type "bool") := fun F H v ok h => by cases (show v = V.bl n from h); exact .base (.bl _)
theorem ty_S {n : Str} : TyP fr Θ Kf (iz zS n) (.type "str") := fun F H v ok h => by cases h.1; exact .base (.str _)
theorem cb_isi {p : Vp} {a n : String} {b : Bool} (h : TyP fr Θ Kf p (.type a)) (e : kitB a n = some b) (k : K (iz zB b) Θ) : Cbs fr Θ (rIsi Kf) [p, zTy n] K := fun F H vs ok hps Q q => by
  cases hps with
  | cons h1 hp => cases hp with
    | cons h2 hp => cases hp with
      | nil =>
        have h2 : _ = V.ty n := h2
        subst h2
        exact ⟨_, _, _, _, b, rfl, .ty _, h F H _ ok h1, kit_ty e, q.go k ok rfl⟩
theorem kit_ll : kitB "list" "list" = some true := by decide +kernel
theorem kit_tt : kitB "tuple" "tuple" = some true := by decide +kernel
theorem kit_ii : kitB "int" "int" = some true := by decide +kernel
theorem kit_ib : kitB "int" "bool" = some false := by decide +kernel
theorem kit_bb : kitB "bool" "bool" = some true := by decide +kernel
theorem kit_ss : kitB "str" "str" = some true := by decide +kernel
theorem im_t {b : Bool} {t : TT} {c : Bool} (h : b = true → Et fr Γ Θ t c) : b = true → Et fr Γ Θ t c := h
theorem im_f {b : Bool} {t : TT} {c : Bool} (h : b = false → Et fr Γ Θ t c) : b = false → Et fr Γ Θ t c := h
theorem im_tv {b : Bool} {t : TE} {p : Vp} (h : b = true → Ev fr Γ Θ t p) : b = true → Ev fr Γ Θ t p := h
theorem im_fv {b : Bool} {t : TE} {p : Vp} (h : b = false → Ev fr Γ Θ t p) : b = false → Ev fr Γ Θ t p := h
end
end L2
set_option Elab.async false
set_option linter.all false
set_option maxRecDepth 100000
set_option maxHeartbeats 4000000
namespace L2
open PySem PySem.Spec PyProof.Rows PySem.HErr
abbrev PreN := List Vp → (Vp → List Cel → Prop) → (Er → Prop) → Prop
def spN (pre : PreN) : Sp := fun vs H Q E => ∃ F ps out err, Same F H ∧ Paired (fun (p : Vp) v => p.p F v) ps vs ∧ pre ps out err ∧
  (∀ p Θn, out p Θn → ∀ v F' H', Same H H' → Same F F' → Same F' H' → Newer F H F' → CellsAt F' H' Θn → (∀ c ∈ Θn, H c.a = none ∧ c.own = true) → p.p F' v → Q v H') ∧ PErs F H E err
section
variable {fr : Fr} {Γ Γ' : Gam} {Θ Θ' Θn : List Cel} {F F' H H' : Hp} {K : Vp → List Cel → Prop} {Q : VK}
theorem OkF.more (k : OkF fr Θ F H) (hh : Same H H') (ff : Same F F') (fh : Same F' H') (nw : Newer F H F') (ca : CellsAt F' H' Θn) (hn : ∀ c ∈ Θn, H c.a = none ∧ c.own = true) : OkF fr (Θn ++ Θ) F' H' := by
  have g := k.grow hh ff fh nw
  refine ⟨g.fh, g.f0, g.nw, g.h0, g.al, ?_, fun c hc => ?_⟩
  · rw [List.map_append, List.nodup_append]
    refine ⟨ca.1, g.nd, fun a ha b hb e => ?_⟩
    obtain ⟨c, hc, rfl⟩ := List.mem_map.mp ha
    obtain ⟨d, hd, rfl⟩ := List.mem_map.mp hb
    obtain ⟨_, ⟨o, h2, _⟩, _⟩ := k.ce d hd
    have h1 : H c.a = none := (hn c hc).1
    rw [e, h2] at h1
    cases h1
  · rcases List.mem_append.mp hc with hc | hc
    · obtain ⟨h1, h2⟩ := ca.2 c hc
      obtain ⟨h3, h4⟩ := hn c hc
      exact ⟨h1, h2, by rw [if_pos h4]; exact k.h0n h3⟩
    · exact g.ce c hc
theorem sps_N {pre : PreN} {E : L2.St → XK} {ps : List Vp} {out : Vp → List Cel → Prop} {err : Er → Prop} (hp : pre ps out err) (k : ∀ p Θn, out p Θn → K p (Θn ++ Θ)) (x : ∀ e, err e → Kr fr Γ Θ (fun cls d σ H => E σ cls d H) e) : Sps fr Γ Θ (spN pre) E ps K := fun σ F H vs ok env hps Q q =>
  ⟨F, ps, out, err, ok.fh, hps, hp, fun p Θn ho v F' H' hh ff fh nw ca hn h => q p _ (k p Θn ho) v F' H' ff (ok.more hh ff fh nw ca hn) h,
    fun e he F' H' d us hh ff fh nw hd hf => x e he σ F' H' (ok.grow hh ff fh nw) (env.mono ff) d us hd hf⟩
def RetN (fr : Fr) (Q : VK) (out : Vp → List Cel → Prop) : Prop := ∀ p Θn, out p Θn → (∀ c ∈ Θn, c.own = true) → ∀ Θ'' Θx, Θ''.Perm (Θn ++ Θx) → Rt fr Θ'' Q p
theorem RetN.fine {fr' : Fr} {out : Vp → List Cel → Prop} (h : RetN fr Q out) (l : FrLe fr fr') : RetN fr' Q out := fun p Θn ho hn Θ'' Θx pm => (h p Θn ho hn Θ'' Θx pm).fine l
end
section
variable {P : Program} {w : World} {K : PySem.W.Frag} {mg : Str → Option Value} {base : Heap} {x m qual : Str} {C : Addr} {st : Stmt} {N ps : List Str} {k : Nat} {pre : PreN}
theorem retN_of {F H : Hp} {Q : VK} {out : Vp → List Cel → Prop} (h4 : ∀ p Θn, out p Θn → ∀ v F' H', Same H H' → Same F F' → Same F' H' → Newer F H F' → CellsAt F' H' Θn → (∀ c ∈ Θn, H c.a = none ∧ c.own = true) → p.p F' v → Q v H') : RetN ⟨F, H, []⟩ Q out := fun p Θn ho hn Θ'' Θx pm v F' H' ok hv => by
  have ok2 := ok.perm pm
  obtain ⟨a, b, c, d⟩ := ok.post
  refine h4 p Θn ho v F' H' a b c d ok2.cellsAt (fun e he => ⟨?_, hn e he⟩) hv
  have := (ok2.ce e (List.mem_append_left _ he)).2.2
  rw [if_pos (hn e he)] at this
  exact this
theorem Src.okN (F : Src K mg x st ps) (S : FnScope N ps (defScope st)) (len : ∀ qs out err, pre qs out err → qs.length = ps.length)
    (hbody : ∀ (f : Addr) (cdv : Value) (A : Around) (outer : List Env) (s : Shared) (H : Hp) (E : XK) (qs : List Vp) (out : Vp → List Cel → Prop) (err : Er → Prop), Room k (A.deeper (envOfC x (defScope st) s.heap.objs.size f cdv)) → pre qs out err →
      ∃ t, PSs (cxOf CX0 P w K mg base N x (defScope st) f cdv A outer s H E).nox (defBody st) t ∧ ∀ fr Q, RetN fr Q out → Kn fr (envOf N qs) [] (t { nx := fun _ H' => Q .non H', rt := Q })) : Def P w K mg base CX0 (k + 1) x ps (spN pre) := by
  refine F.ok S (fun vs H Q E h => ?_) (fun f cdv A outer s H vs Q E hr h => ?_)
  · obtain ⟨F, qs, out, err, _, h2, h3, _⟩ := h
    rw [← Paired.len h2]
    exact len _ _ _ h3
  · obtain ⟨F, qs, out, err, h1, h2, h3, h4, h5⟩ := h
    obtain ⟨t, ht, hk⟩ := hbody f cdv A outer s H E qs out err hr h3
    exact ⟨t, ht, hk _ Q (retN_of h4) _ F H (OkF.start h1) (env_start h2)⟩
end
section
variable {fr : Fr} {Γ Γ' : Gam} {Θ Θ' Θn : List Cel} {F F' H H' : Hp} {K : Vp → List Cel → Prop} {Q : VK}
/-- the value as it stood in F0 -/
def pin (F0 : Hp) (p : Vp) : Vp := ⟨fun _ v => p.p F0 v, fun _ h => h⟩
/-- the object at a, and what it is just now -/
def zBoth (a : Addr) (q : Vp) : Vp := ⟨fun F v => v = .ref a ∧ q.p F v, fun e ⟨h1, h2⟩ => ⟨h1, q.mono e h2⟩⟩
/-- Fc: F0 and the contents of the cells Θb -/
structure Lend (fr : Fr) (Θb : List Cel) (F0 Fc : Hp) : Prop where
  s : Same F0 Fc
  f0 : Same fr.F0 F0
  nw : ∀ a o, F0 a = some o → Nwr fr.F0 fr.H0 a o
  nc : ∀ a o, Fc a = some o → (∃ o', F0 a = some o') ∨ a ∈ Θb.map Cel.a
  nd : (Θb.map Cel.a).Nodup
  ce : ∀ c ∈ Θb, F0 c.a = none ∧ (∃ o, Fc c.a = some o ∧ c.φ F0 o) ∧ c.own = true ∧ fr.H0 c.a = none
theorem we_varP {Θb : List Cel} {F0 Fc : Hp} {B : List Addr} {H0 : Hp} {p : Vp} {i : Nat} (hl : Lend fr Θb F0 Fc) (h : Γ[i]? = some (some (pin F0 p))) (k : K p Θ) : We ⟨Fc, H0, B⟩ Γ Θ (tVar i) K := fun σ F H ok env Q q => by
  obtain ⟨v, h1, h2⟩ := env.get h
  exact ⟨v, h1, q.go k ok (p.mono (hl.s.trans ok.f0) h2)⟩
theorem we_varB {a : Addr} {p : Vp} {i : Nat} (h : Γ[i]? = some (some (zBoth a p))) (k : K p Θ) : We fr Γ Θ (tVar i) K := fun σ F H ok env Q q => by
  obtain ⟨v, h1, h2⟩ := env.get h
  exact ⟨v, h1, q.go k ok h2.2⟩
/-- a list, lent -/
theorem Lend.lst {α : Type} {r : Rep α} {G : Addr} {xs : List α} {Θx : List Cel} {F0 Fc : Hp} (hl : Lend fr (cL G r xs :: Θx) F0 Fc) : ∀ F v, Same Fc F → (zAt G).p F0 v → (zBoth G (iz (zL r) xs)).p F v := fun F v hs hv => by
  have hv : v = .ref G := hv
  subst hv
  obtain ⟨_, ⟨o, h2, vs, rfl, h3⟩, _⟩ := hl.ce _ (.head _)
  exact ⟨rfl, G, vs, rfl, hs _ _ h2, Paired.imp2 (fun _ _ h => r.mono (hl.s.trans hs) h) h3⟩
end
end L2
set_option Elab.async false
set_option linter.all false
set_option maxRecDepth 100000
set_option maxHeartbeats 4000000
namespace L2
open PySem PySem.Spec PyProof.Rows PySem.HErr
abbrev PreB := List Vp → (Vp → Prop) → Prop
section
variable {fr : Fr} {Γ Γ' : Gam} {Θ Θ' Θn : List Cel} {F F' H H' : Hp} {K : Vp → List Cel → Prop} {Q : VK}
theorem perm_of_mem {c : Cel} (h : c ∈ Θ) : ∃ Θr, Θ.Perm ([c] ++ Θr) := by
  obtain ⟨s, t, rfl⟩ := List.append_of_mem h
  exact ⟨s ++ t, List.perm_middle⟩
def RetB (fr : Fr) (Q : VK) (b l : Addr) (o : Vp → Prop) : Prop := ∀ p, o p → ∀ Θ, cBox true b l ∈ Θ → Rt fr Θ Q p
theorem RetB.fine {fr' : Fr} {b l : Addr} {o : Vp → Prop} (h : RetB fr Q b l o) (le : FrLe fr fr') : RetB fr' Q b l o := fun p hp Θ hc => (h p hp Θ hc).fine le
end
/-- a list of two things -/
def zLp {α β : Type} (r : Rep α) (s : Rep β) : Rep (α × β) := ⟨fun F v x => ∃ a u w, v = .ref a ∧ F a = some (.lst [u, w]) ∧ r.p F u x.1 ∧ s.p F w x.2, fun e ⟨a, u, w, h1, h2, h3, h4⟩ => ⟨a, u, w, h1, e _ _ h2, r.mono e h3, s.mono e h4⟩⟩
section
variable {fr : Fr} {Γ : Gam} {Θ : List Cel} {K : Vp → List Cel → Prop}
theorem we_lstp {α β : Type} {r : Rep α} {s : Rep β} {t : TA} (w : Wa fr Γ Θ t fun ps Θ1 => ∃ x y, ps = [iz r x, iz s y] ∧ K (iz (zLp r s) (x, y)) Θ1) : We fr Γ Θ (tLst t) K := fun σ F H ok env Q q =>
  w σ F H ok env _ fun ps Θ1 ⟨x, y, e, k⟩ vs F1 H1 s1 ok1 hps => ⟨small_len hps (by rw [e]; simp), fun a na => by
    subst e
    have hps := ps_mono (ok1.sameF (o := .lst vs) na) hps
    cases hps with
    | cons h1 hp => cases hp with
      | cons h2 hp => cases hp with
        | nil => exact (q.mono s1).new k ok1 na ⟨a, _, _, rfl, upd_same, h1, h2⟩⟩
end
theorem cutX_drop {α : Type} (xs : List α) (n : Nat) : cutX xs (some (n : Int)) none = xs.drop n := by
  unfold cutX
  rw [HT.sIx_none, HT.sIx_nat]
  by_cases h : n ≤ xs.length
  · rw [Nat.min_eq_left h]
    exact List.take_of_length_le (by rw [List.length_drop]; exact Nat.le_refl _)
  · rw [Nat.min_eq_right (by omega), List.drop_length, List.drop_of_length_le (by omega), List.take_nil]
theorem cutX_take {α : Type} (xs : List α) (n : Nat) : cutX xs none (some (n : Int)) = xs.take n := by
  unfold cutX
  rw [HT.sIx_none, HT.sIx_nat]
  show List.take (min n xs.length - 0) (List.drop 0 xs) = _
  rw [List.drop_zero, Nat.sub_zero, Nat.min_comm]
  by_cases h : n ≤ xs.length
  · rw [Nat.min_eq_right h]
  · rw [Nat.min_eq_left (by omega), List.take_length, List.take_of_length_le (by omega)]
end L2
set_option Elab.async false
set_option linter.all false
set_option maxRecDepth 100000
set_option maxHeartbeats 4000000
namespace L2
open PySem PySem.Spec PyProof.Rows PySem.HErr
section
variable {fr : Fr} {Γ Γ' : Gam} {Θ : List Cel} {F F' H H' : Hp} {K : Vp → List Cel → Prop} {Q : VK}
theorem tyl_L {α : Type} {r : Rep α} {xs : List α} {Kf : PySem.W.Frag} : ∀ F H v, OkF fr Θ F H → (iz (zL r) xs).p F v → tyV Kf "list" v H := fun F H v ok ⟨a, vs, h1, h2, _⟩ => by
  subst h1
  exact .inl ⟨rfl, vs, SqL.of (ok.fh _ _ h2)⟩
def optP {α : Type} (r : Rep α) : Option α → Vp
  | none => zNon
  | some x => iz r x
class NotNon {α : Type} (r : Rep α) : Prop where
  nn : ∀ F v x, r.p F v x → v ≠ .non
instance {α : Type} {r : Rep α} : NotNon (zL r) := ⟨fun F v x ⟨a, vs, h, _⟩ => by rw [h]; exact fun q => by cases q⟩
instance {α : Type} [TNar α] {r : Rep α} : NotNon (zT r) := ⟨fun F v x ⟨a, vs, h, _⟩ => by rw [h]; exact fun q => by cases q⟩
instance {α β : Type} {r : Rep α} {s : Rep β} : NotNon (z2 r s) := ⟨fun F v x ⟨a, u, w, h, _⟩ => by rw [h]; exact fun q => by cases q⟩
instance {α β γ : Type} {r : Rep α} {s : Rep β} {t : Rep γ} : NotNon (z3 r s t) := ⟨fun F v x ⟨a, u, w, z, h, _⟩ => by rw [h]; exact fun q => by cases q⟩
instance : NotNon zI := ⟨fun F v x h => by rw [show v = .int x from h]; exact fun q => by cases q⟩
instance : NotNon zS := ⟨fun F v x h => by rw [h.1]; exact fun q => by cases q⟩
theorem ops_isO {α : Type} {r : Rep α} [NotNon r] {o : Option α} (k : K (iz zB o.isNone) Θ) : Ops fr Θ (fun x y H Q => y = .non ∧ Q (.bl (decide (x = .non))) H) (optP r o) zNon K := fun F H v w ok hv hw Q q => by
  refine ⟨hw, q.go k ok ?_⟩
  show V.bl _ = V.bl _
  cases o with
  | none => rw [show v = .non from hv]; rfl
  | some x => rw [decide_eq_false (NotNon.nn F v x hv)]; rfl
theorem ops_notO {α : Type} {r : Rep α} [NotNon r] {o : Option α} (k : K (iz zB o.isSome) Θ) : Ops fr Θ (fun x y H Q => y = .non ∧ Q (.bl (!decide (x = .non))) H) (optP r o) zNon K := fun F H v w ok hv hw Q q => by
  refine ⟨hw, q.go k ok ?_⟩
  show V.bl _ = V.bl _
  cases o with
  | none => rw [show v = .non from hv]; rfl
  | some x => rw [decide_eq_false (NotNon.nn F v x hv)]; rfl
theorem ops_isX {α : Type} {r : Rep α} [NotNon r] {x : α} (k : K (iz zB false) Θ) : Ops fr Θ (fun x y H Q => y = .non ∧ Q (.bl (decide (x = .non))) H) (iz r x) zNon K := ops_isO (o := some x) k
theorem ops_notX {α : Type} {r : Rep α} [NotNon r] {x : α} (k : K (iz zB true) Θ) : Ops fr Θ (fun x y H Q => y = .non ∧ Q (.bl (!decide (x = .non))) H) (iz r x) zNon K := ops_notO (o := some x) k
theorem ops_isN (k : K (iz zB true) Θ) : Ops fr Θ (fun x y H Q => y = .non ∧ Q (.bl (decide (x = .non))) H) zNon zNon K := ops_isO (r := zI) (o := none) k
theorem ops_notN (k : K (iz zB false) Θ) : Ops fr Θ (fun x y H Q => y = .non ∧ Q (.bl (!decide (x = .non))) H) zNon zNon K := ops_notO (r := zI) (o := none) k
end
section
variable {X : Cx} {K : PySem.W.Frag} {o e : Expr} {es : List Expr} {to : TE} {t : TA} {name : Str} {apos cpos : Pos} {T id : String} {r : V → List V → Hp → VK → Prop}
theorem kpe_bm (pa : PlainAttrs T) (slot : Slot T name id) (hty : typeOf (.builtin id) = pure (.type "method_descriptor")) (hm : MtR X id r) (ho : PE X o to) (ha : PA X (e :: es) t)
    (hbase : attributeBase o name X.env (eval o X.env) = eval o X.env := by rfl)
    (hfew : ((backTo cpos (starEach (e :: es) X.env)).all (fun x => !x.1) && (backToKw cpos (keywordEach [] X.env)).all (fun x => x.1.isSome)
      && decide ((e :: es).length + ([] : List Keyword).length + (if ([] : List Keyword).isEmpty then 0 else 1) < 30)) = true := by rfl)
    (hline : (apos.endLine == cpos.line) = true := by rfl) (hs : starEach (e :: es) X.env = (false, eval e X.env) :: starEach es X.env := by rfl) (hplain : (backTo cpos (starEach es X.env)).any (·.1) = false := by rfl) (h : X.K = K := by rfl) :
    PE X (.Call (.Attribute o name apos) (e :: es) [] cpos) (tBM K T r to t) := h ▸ pe_bm pa slot hty hm ho ha hbase hfew hline hs hplain
end
end L2
set_option Elab.async false
set_option linter.all false
set_option maxRecDepth 100000
set_option maxHeartbeats 4000000
namespace L2
open PySem PySem.Spec PyProof.Rows PySem.HErr
section
variable {P : Program} {w : World} {A : Around} {E : Value → Shared → Prop} {s : Shared} {K : PySem.W.Frag} {a C f dx : Addr} {mA : Str → Option Value} {name : Str} {args : List Value}
theorem bindS (X : K.In s.heap) (hm : Meth K C name f) {self : Value} {Q : Value × List Value → Shared → Prop} (h : Q (.ref f, [self]) s) : wpAny (model P w) A (bindSpecial (.ref f) self) Q E s :=
  (PySem.W.bind_fn X self (beq_iff_eq.mp hm.fn)).here h
theorem special_own {Q : Option Value → Shared → Prop} (X : K.In s.heap) (I : ObjM s.heap a dx C mA) (hm : Meth K C name f)
    (hc : wpAny (model P w) A (call (.ref f) (.ref a :: args)) (fun v s' => Q (some v) s') E s) : wpAny (model P w) A (callSpecial? (.ref a) name args) Q E s := by
  obtain ⟨od, J, _⟩ := I.look
  unfold callSpecial? specialOf
  refine wpAny_bind (wpAny_bind (J.type.here ((PySem.W.looks_findIn X hm.at_).here ?_)))
  refine wpAny_holding ?_
  refine wpAny_bind (bindS X hm ?_)
  exact wpAny_bind (wpAny_mono hc (fun v s' h => wpAny_pure h) fun _ _ z => z)
end
/-- o[i], o an instance of the class at C whose __getitem__ says sp -/
def tIxO (C : Addr) (sp : Sp) (E : St → XK) (tp ty : TE) : TE := fun σ H Q => tp σ H fun x H1 => ty σ H1 fun y H2 => ∃ a dx fs, x = .ref a ∧ H2 a = some (.ins C dx fs) ∧ sp [.ref a, y] H2 Q (E σ)
section
variable {X : Cx} {CX : CXT} {k : Nat} {C : Addr} {ps : List Str} {sp : Sp} {E : St → XK} {i o : Expr} {ty tp : TE} {x : Str} {p pos : Pos}
theorem run_fnS1 {pins : List (Addr × Obj)} {σ : St} {H : Hp} {s : Shared} {Q : VK} {f : Addr} {fd : FuncData} {us : List Value} {vs : List V} (F : FnOk X.prog X.w X.K X.mg X.base CX k f fd ps sp) (hr : Room (k + 1) X.A) (hb : Binds X.K fd ps []) (hx : PassesAt CX X σ (E σ))
    (I : Inv X pins σ H s) (r : Vals vs us) (h : sp vs H Q (E σ)) : wpAny (model X.prog X.w) X.A.in1 (call (.ref f) us) (EP X pins σ Q) X.xe s := by
  have hl : us.length = ps.length := by rw [← r.length]; exact F.len _ _ _ _ h
  have b := hb s us I.kIn (by rw [List.append_nil]; exact hl)
  rw [List.append_nil] at b
  refine wpAny_call (codeAny_mono (F.run X.A.in1 X.stack s H ⟨us, []⟩ us vs Q (E σ) hr.in1 I.env0.in1 b r h) fun r s' hq => ?_)
  cases r with
  | error e => exact hx pins H s e s' I hq
  | ok fl =>
    cases fl with
    | ret u => exact I.after hq
    | next => exact False.elim hq
    | brk => exact False.elim hq
    | cont => exact False.elim hq
end
/-- its object is a def -/
def GetFn (K : PySem.W.Frag) (C : Addr) : Prop := ∀ f, PySem.W.findIn K (.ref C) "__getitem__" = some (some (.ref f)) → PySem.W.fnIn K f = true
/-- the element of a subscription of an own object -/
def OwnSl (i : Expr) : Prop := ∀ x iv, subscripted i true (.ref x) iv = runValue (.builtin "lifetime.subscript" ⟨[.ref x, iv], []⟩)
theorem pe_ixO {X : Cx} {CX : CXT} {k : Nat} {C : Addr} {ps : List Str} {sp : Sp} {E : St → XK} {i o : Expr} {ty tp : TE} {pos : Pos} (D : DefM X.prog X.w X.K X.mg X.base CX k C "__getitem__" ps sp) (gf : GetFn X.K C) (hr : Room (k + 1) X.A) (hx : ∀ σ, PassesAt CX X σ (E σ)) (ho : PE X o tp) (hi : PE X i ty) (hs : OwnSl i) : PE X (.Subscript o i pos) (tIxO C sp E tp ty) := by
  obtain ⟨f, fd, hlk, hm, hb, F⟩ := D.ex
  refine ⟨fun pins s σ H Q I h => ?_⟩
  refine Subscript_ (thn (ho.run pins s σ H _ I h) fun u s1 ⟨x, H1, I1, rx, q1⟩ => thn (hi.run pins s1 σ H1 _ I1 q1) fun iv s2 ⟨y, H2, I2, ry, a, dx, fs, ex, ea, q2⟩ => ?_)
  subst ex
  obtain rfl : u = Value.ref a := rx
  obtain ⟨mA, O, _⟩ := ins_get I2.hok ea
  obtain ⟨od, J, _⟩ := O.look
  have run := run_fnS1 (us := [.ref a, iv]) (vs := [.ref a, y]) F hr hb (hx σ) I2 (.cons rfl (.cons ry .nil)) q2
  have hf := gf f hm.at_
  unfold PySem.W.fnIn at hf
  split at hf
  · rename_i e
    unfold subscriptTail getitemInPython
    refine wpAny_bind (wpAny_bind (wpAny_bind (J.type.here ((PySem.W.looks_findIn I2.kIn hm.at_).here ?_))))
    dsimp only
    refine wpAny_bind (wpAny_load (I2.kIn _ _ e) (wpAny_pure ?_))
    dsimp only
    rw [hs a iv]
    refine wpAny_bind (wpAny_runValue (codeAny_builtin PySem.W.entry_sub ?_))
    unfold Builtin.«lifetime.subscript»
    refine wpAny_bind (special_own I2.kIn O hm (wpAny_mono run (fun v s' z => ?_) fun _ _ z => z))
    refine wpAny_pure ?_
    show wpAny (model X.prog X.w) X.A (letTemporaryGo o (.ref a) v >>= fun _ => pure v) (EP X pins σ Q) X.xe s'
    exact wpAny_bind (wpAny_letTemporaryGo (wpAny_pure z))
  · cases hf
end L2
set_option Elab.async false
set_option linter.all false
set_option maxRecDepth 100000
set_option maxHeartbeats 4000000
namespace L2
open PySem PySem.Spec PyProof.Rows PySem.HErr
/-- an instance of the class at C -/
def InsC (fr : Fr) (Θ : List Cel) (p : Vp) (C : Addr) : Prop := ∀ F H v, OkF fr Θ F H → p.p F v → ∃ a dx fs, v = .ref a ∧ H a = some (.ins C dx fs)
section
variable {fr : Fr} {Γ Γ' : Gam} {Θ : List Cel} {F F' H H' : Hp} {K : Vp → List Cel → Prop} {Q : VK} {C : Addr} {sp : Sp} {E : L2.St → XK} {ta tb : TE}
theorem InsP.c {p : Vp} {m : Str} (h : InsP fr Θ p C m) : InsC fr Θ p C := fun F H v ok hv => by
  obtain ⟨a, dx, fs, h1, h2, _⟩ := h F H v ok hv
  exact ⟨a, dx, fs, h1, h2⟩
theorem we_ixO (w : We fr Γ Θ ta fun p Θ1 => We fr Γ Θ1 tb fun q Θ2 => InsC fr Θ2 p C ∧ Sps fr Γ Θ2 sp E [p, q] K) : We fr Γ Θ (tIxO C sp E ta tb) K := fun σ F H ok env Q k =>
  w σ F H ok env _ fun p Θ1 w1 x F1 H1 s1 ok1 hx => w1 σ F1 H1 ok1 (env.mono s1) _ fun q Θ2 ⟨ic, w2⟩ y F2 H2 s2 ok2 hy => by
    have hx2 := p.mono s2 hx
    obtain ⟨a, dx, fs, rfl, h2⟩ := ic F2 H2 x ok2 hx2
    exact ⟨a, dx, fs, rfl, h2, w2 σ F2 H2 _ ok2 ((env.mono s1).mono s2) (.cons hx2 (.cons hy .nil)) _ (k.mono (s1.trans s2))⟩
end
end L2
set_option Elab.async false
set_option linter.all false
set_option maxRecDepth 100000
set_option maxHeartbeats 4000000
namespace L2
open PySem PySem.Spec PyProof.Rows PySem.HErr
abbrev big : Nat := 100000
theorem big_line {n : Nat} (h : n ≤ big) : n ≤ sizeLine := Nat.le_trans h (by unfold sizeLine; decide)
theorem big_lt {n : Nat} (h : n ≤ big) : n < sizeLine := Nat.lt_of_le_of_lt h (by unfold sizeLine; decide)
inductive EK where
  | tooMany | badWord | double | badNumber | empty | unknown | inUse | badState | notReady | notSound | badPair | badText | noUndo
  deriving DecidableEq
inductive HE where
  | tooMany (kind : Str) (limit : Int)
  | badWord (w : Str)
  | double (n : Str)
  | badNumber (n : Int)
  | empty (n : Str)
  | unknown (n : Str)
  | inUse (n : Str)
  | badState (ns : List Int)
  | notReady (s p : Str) (i : Int)
  | notSound (d : PyData)
  | badPair (n : Str)
  | badText (n : Int)
  | noUndo
def HE.k : HE → EK
  | .tooMany _ _ => .tooMany
  | .badWord _ => .badWord
  | .double _ => .double
  | .badNumber _ => .badNumber
  | .empty _ => .empty
  | .unknown _ => .unknown
  | .inUse _ => .inUse
  | .badState _ => .badState
  | .notReady _ _ _ => .notReady
  | .notSound _ => .notSound
  | .badPair _ => .badPair
  | .badText _ => .badText
  | .noUndo => .noUndo
/-- what is wanted: of the result, of an error -/
abbrev DM (β : Type) := (β → Prop) → (HE → Prop) → Prop
def noX : HE → Prop := fun _ => False
def ifD (c : Bool) (A B : Prop) : Prop := (c = true → A) ∧ (c = false → B)
def andD (c : Bool) (f : (Bool → Prop) → Prop) (k : Bool → Prop) : Prop := (c = true → f k) ∧ (c = false → k false)
def orD (c : Bool) (f : (Bool → Prop) → Prop) (k : Bool → Prop) : Prop := (c = true → k true) ∧ (c = false → f k)
def joinD {S : Type} (f : (S → Prop) → Prop) (k : S → Prop) : Prop := f k
def forD {α S : Type} : List α → S → (α → S → (S → Prop) → (S → Prop) → Prop) → (S → Prop) → Prop
  | [], s, _, after => after s
  | x :: xs, s, body, after => body x s (fun s' => forD xs s' body after) after
def mapD {α β : Type} : List α → List β → (α → (β → Prop) → Prop) → (List β → Prop) → Prop
  | [], acc, _, k => k acc
  | x :: xs, acc, f, k => f x fun y => mapD xs (acc ++ [y]) f k
def compD {α β : Type} : List α → List β → (α → (Option β → Prop) → Prop) → (List β → Prop) → Prop
  | [], acc, _, k => k acc
  | x :: xs, acc, f, k => f x fun o => compD xs (acc ++ o.toList) f k
def Vp.Le (p q : Vp) : Prop := ∀ F v, p.p F v → q.p F v
theorem Vp.Le.refl (p : Vp) : p.Le p := fun _ _ h => h
def yN : Rep Unit := ⟨fun _ v _ => v = .non, fun _ h => h⟩
def yS : Rep Str := ⟨fun F v x => zS.p F v x ∧ x.length ≤ big, fun e h => ⟨zS.mono e h.1, h.2⟩⟩
def yL {α : Type} (r : Rep α) : Rep (List α) := ⟨fun F v x => (zL r).p F v x ∧ x.length ≤ big, fun e h => ⟨(zL r).mono e h.1, h.2⟩⟩
def yT {α : Type} [TNar α] (r : Rep α) : Rep (List α) := ⟨fun F v x => (zT r).p F v x ∧ x.length ≤ big, fun e h => ⟨(zT r).mono e h.1, h.2⟩⟩
def yD {α : Type} (r : Rep α) : Rep (List (Str × α)) := ⟨fun F v x => (zD r).p F v x ∧ x.length ≤ big, fun e h => ⟨(zD r).mono e h.1, h.2⟩⟩
/-- None or a thing -/
def yO {α : Type} (r : Rep α) : Rep (Option α) := ⟨fun F v x => match x with | none => v = .non | some y => r.p F v y, fun {F F' v x} e h => by
  cases x with
  | none => exact h
  | some y => exact r.mono e h⟩
mutual
def xp (F : Hp) : PyData → V → Prop
  | .none, v => v = .non
  | .int i, v => v = .int i
  | .str x, v => v = .str x ∧ Asc x ∧ x.length ≤ big
  | .list ds, v => ∃ a vs, v = .ref a ∧ F a = some (.lst vs) ∧ ds.length ≤ big ∧ xpAll F ds vs
  | .tuple ds, v => ∃ a vs, v = .ref a ∧ TupB (!isSDs ds) F a vs ∧ ds.length ≤ big ∧ xpAll F ds vs
  | .bool _, _ => False
  | .dict _, _ => False
def xpAll (F : Hp) : List PyData → List V → Prop
  | [], vs => vs = []
  | d :: ds, vs => ∃ v r, vs = v :: r ∧ xp F d v ∧ xpAll F ds r
end
mutual
theorem xp_mono {F F' : Hp} (e : Same F F') : ∀ (d : PyData) (v : V), xp F d v → xp F' d v
  | .none, _, h => by simp only [xp] at h ⊢; exact h
  | .int _, _, h => by simp only [xp] at h ⊢; exact h
  | .str _, _, h => by simp only [xp] at h ⊢; exact h
  | .bool _, _, h => by simp only [xp] at h
  | .dict _, _, h => by simp only [xp] at h
  | .list ds, _, h => by
    simp only [xp] at h ⊢
    obtain ⟨a, vs, h1, h2, h3, h4⟩ := h
    exact ⟨a, vs, h1, e _ _ h2, h3, xpAll_mono e ds vs h4⟩
  | .tuple ds, _, h => by
    simp only [xp] at h ⊢
    obtain ⟨a, vs, h1, h2, h3, h4⟩ := h
    exact ⟨a, vs, h1, h2.mono e, h3, xpAll_mono e ds vs h4⟩
theorem xpAll_mono {F F' : Hp} (e : Same F F') : ∀ (ds : List PyData) (vs : List V), xpAll F ds vs → xpAll F' ds vs
  | [], _, h => by simp only [xpAll] at h ⊢; exact h
  | d :: ds, _, h => by
    simp only [xpAll] at h ⊢
    obtain ⟨v, r, h1, h2, h3⟩ := h
    exact ⟨v, r, h1, xp_mono e d v h2, xpAll_mono e ds r h3⟩
end
def yX : Rep PyData := ⟨fun F v d => xp F d v ∧ d.depth ≤ 60, fun e h => ⟨xp_mono e _ _ h.1, h.2⟩⟩
/-- lists and tuples of a fixed form -/
def zL3 {α β γ : Type} (r : Rep α) (s : Rep β) (t : Rep γ) : Rep (α × β × γ) := ⟨fun F v x => ∃ a u w z, v = .ref a ∧ F a = some (.lst [u, w, z]) ∧ r.p F u x.1 ∧ s.p F w x.2.1 ∧ t.p F z x.2.2, fun e ⟨a, u, w, z, h1, h2, h3, h4, h5⟩ => ⟨a, u, w, z, h1, e _ _ h2, r.mono e h3, s.mono e h4, t.mono e h5⟩⟩
def z4 {α β γ δ : Type} (r : Rep α) (s : Rep β) (t : Rep γ) (u : Rep δ) : Rep (α × β × γ × δ) := ⟨fun F v x => ∃ a v1 v2 v3 v4, v = .ref a ∧ F a = some (.tup [v1, v2, v3, v4]) ∧ r.p F v1 x.1 ∧ s.p F v2 x.2.1 ∧ t.p F v3 x.2.2.1 ∧ u.p F v4 x.2.2.2, fun e ⟨a, v1, v2, v3, v4, h1, h2, h3, h4, h5, h6⟩ => ⟨a, v1, v2, v3, v4, h1, e _ _ h2, r.mono e h3, s.mono e h4, t.mono e h5, u.mono e h6⟩⟩
def z5 {α β γ δ ε : Type} (r : Rep α) (s : Rep β) (t : Rep γ) (u : Rep δ) (w : Rep ε) : Rep (α × β × γ × δ × ε) := ⟨fun F v x => ∃ a v1 v2 v3 v4 v5, v = .ref a ∧ F a = some (.tup [v1, v2, v3, v4, v5]) ∧ r.p F v1 x.1 ∧ s.p F v2 x.2.1 ∧ t.p F v3 x.2.2.1 ∧ u.p F v4 x.2.2.2.1 ∧ w.p F v5 x.2.2.2.2, fun e ⟨a, v1, v2, v3, v4, v5, h1, h2, h3, h4, h5, h6, h7⟩ => ⟨a, v1, v2, v3, v4, v5, h1, e _ _ h2, r.mono e h3, s.mono e h4, t.mono e h5, u.mono e h6, w.mono e h7⟩⟩
def z1 {α : Type} (r : Rep α) : Rep α := ⟨fun F v x => ∃ a v1, v = .ref a ∧ F a = some (.tup [v1]) ∧ r.p F v1 x, fun e ⟨a, v1, h1, h2, h3⟩ => ⟨a, v1, h1, e _ _ h2, r.mono e h3⟩⟩
/-- a list of one's own, of bounded size -/
def cY {α : Type} (a : Addr) (r : Rep α) (xs : List α) : Cel := ⟨a, true, fun F o => (∃ vs, o = .lst vs ∧ PVs r F vs xs) ∧ xs.length ≤ big, fun e ⟨⟨vs, h1, h2⟩, h3⟩ => ⟨⟨vs, h1, Paired.imp2 (fun _ _ h => r.mono e h) h2⟩, h3⟩, fun h e => by subst e; simp at h⟩
theorem le_yS {z : Str} (h : z.length ≤ big) : (iz zS z).Le (iz yS z) := fun _ _ q => ⟨q, h⟩
theorem le_zS {z : Str} : (iz yS z).Le (iz zS z) := fun _ _ q => q.1
theorem le_yL {α : Type} {r : Rep α} {xs : List α} (h : xs.length ≤ big) : (iz (zL r) xs).Le (iz (yL r) xs) := fun _ _ q => ⟨q, h⟩
theorem le_yT {α : Type} [TNar α] {r : Rep α} {xs : List α} (h : xs.length ≤ big) : (iz (zT r) xs).Le (iz (yT r) xs) := fun _ _ q => ⟨q, h⟩
theorem le_zL {α : Type} {r : Rep α} {xs : List α} : (iz (yL r) xs).Le (iz (zL r) xs) := fun _ _ q => q.1
theorem le_zT {α : Type} [TNar α] {r : Rep α} {xs : List α} : (iz (yT r) xs).Le (iz (zT r) xs) := fun _ _ q => q.1
theorem pvs_imp {α : Type} {r s : Rep α} {F : Hp} {vs : List V} {xs : List α} (h : PVs r F vs xs) (f : ∀ v x, x ∈ xs → r.p F v x → s.p F v x) : PVs s F vs xs := by
  induction h with
  | nil => exact .nil
  | cons a _ ih => exact .cons (f _ _ (List.mem_cons_self ..) a) (ih fun v x hx => f v x (List.mem_cons_of_mem _ hx))
theorem le_TT {α : Type} [TNar α] {r s : Rep α} {xs : List α} (h : xs.length ≤ big) (f : ∀ F v x, x ∈ xs → r.p F v x → s.p F v x) : (iz (zT r) xs).Le (iz (yT s) xs) := fun F v ⟨a, vs, h1, h2, h3⟩ => ⟨⟨a, vs, h1, h2, pvs_imp h3 (f F)⟩, h⟩
theorem le_LLr {α : Type} {r s : Rep α} {xs : List α} (f : ∀ F v x, x ∈ xs → r.p F v x → s.p F v x) : (iz (yL r) xs).Le (iz (zL s) xs) := fun F v ⟨⟨a, vs, h1, h2, h3⟩, _⟩ => ⟨a, vs, h1, h2, pvs_imp h3 (f F)⟩
section
variable {fr : Fr} {Γ Γ' : Gam} {Θ Θ' : List Cel} {F F' H H' : Hp} {K : Vp → List Cel → Prop} {Q : VK}
theorem Kq.conv (h : Kq fr F K Q) : Kq fr F (fun p Θ1 => ∃ q, p.Le q ∧ K q Θ1) Q := fun p Θ' ⟨q, l, k⟩ v F' H' s ok hp => h q Θ' k v F' H' s ok (l _ _ hp)
theorem We.conv {t : TE} (w : We fr Γ Θ t fun p Θ1 => ∃ q, p.Le q ∧ K q Θ1) : We fr Γ Θ t K := fun σ F H ok env Q q => w σ F H ok env Q q.conv
theorem Ops.conv {r : R2} {p q : Vp} (w : Ops fr Θ r p q fun p Θ1 => ∃ q, p.Le q ∧ K q Θ1) : Ops fr Θ r p q K := fun F H v w' ok h1 h2 Q k => w F H v w' ok h1 h2 Q k.conv
theorem Cbs.conv {r : List V → Hp → VK → Prop} {ps : List Vp} (w : Cbs fr Θ r ps fun p Θ1 => ∃ q, p.Le q ∧ K q Θ1) : Cbs fr Θ r ps K := fun F H vs ok h1 Q k => w F H vs ok h1 Q k.conv
theorem Mts.conv {r : V → List V → Hp → VK → Prop} {p : Vp} {ps : List Vp} (w : Mts fr Θ r p ps fun p Θ1 => ∃ q, p.Le q ∧ K q Θ1) : Mts fr Θ r p ps K := fun F H v vs ok h1 h2 Q k => w F H v vs ok h1 h2 Q k.conv
theorem Sls.conv {r : V → Option Int → Option Int → Hp → VK → Prop} {p : Vp} {lo hi : Option Int} (w : Sls fr Θ r p lo hi fun p Θ1 => ∃ q, p.Le q ∧ K q Θ1) : Sls fr Θ r p lo hi K := fun F H v ok h1 Q k => w F H v ok h1 Q k.conv
theorem Ops.le {r : R2} {p q p' q' : Vp} (w : Ops fr Θ r p' q' K) (h1 : p.Le p') (h2 : q.Le q') : Ops fr Θ r p q K := fun F H v w' ok a b Q k => w F H v w' ok (h1 _ _ a) (h2 _ _ b) Q k
theorem Sls.le {r : V → Option Int → Option Int → Hp → VK → Prop} {p p' : Vp} {lo hi : Option Int} (w : Sls fr Θ r p' lo hi K) (h : p.Le p') : Sls fr Θ r p lo hi K := fun F H v ok a Q k => w F H v ok (h _ _ a) Q k
/-- a fact that the value tells -/
theorem Ops.tell {r : R2} {p q : Vp} {A : Prop} (h : ∀ F v, p.p F v → A) (w : A → Ops fr Θ r p q K) : Ops fr Θ r p q K := fun F H v w' ok a b Q k => w (h _ _ a) F H v w' ok a b Q k
theorem Cbs.tell {r : List V → Hp → VK → Prop} {p : Vp} {ps : List Vp} {A : Prop} (h : ∀ F v, p.p F v → A) (w : A → Cbs fr Θ r (p :: ps) K) : Cbs fr Θ r (p :: ps) K := fun F H vs ok a Q k => by
  cases a with
  | cons a b => exact w (h _ _ a) F H _ ok (.cons a b) Q k
theorem Sls.tell {r : V → Option Int → Option Int → Hp → VK → Prop} {p : Vp} {lo hi : Option Int} {A : Prop} (h : ∀ F v, p.p F v → A) (w : A → Sls fr Θ r p lo hi K) : Sls fr Θ r p lo hi K := fun F H v ok a Q k => w (h _ _ a) F H v ok a Q k
theorem te_S {z : Str} : ∀ F v, (iz yS z).p F v → z.length ≤ big := fun _ _ h => h.2
theorem te_L {α : Type} {r : Rep α} {xs : List α} : ∀ F v, (iz (yL r) xs).p F v → xs.length ≤ big := fun _ _ h => h.2
theorem we_cSy {z : Str} (h : Asc z) (hl : z.length ≤ big) (k : K (iz yS z) Θ) : We fr Γ Θ (tC (.str z)) K := we_c (p := iz yS z) (fun _ => ⟨⟨rfl, h⟩, hl⟩) k
theorem we_cNy (k : K (iz yN ()) Θ) : We fr Γ Θ (tC .non) K := we_c (fun _ => rfl) k
theorem oy_eqS {m n : Str} (k : K (iz zB (decide (m = n))) Θ) : Ops fr Θ rEq (iz yS m) (iz yS n) K := (ops_eqS k).le le_zS le_zS
theorem oy_addS {m n : Str} (hl : m.length + n.length ≤ big) (k : K (iz yS (m ++ n)) Θ) : Ops fr Θ (fun x y H Q => ∃ i j, x = .str i ∧ y = .str j ∧ i.length + j.length ≤ sizeLine ∧ Q (.str (i ++ j)) H) (iz yS m) (iz yS n) K :=
  (Ops.conv (ops_addS (big_line hl) ⟨_, le_yS (by show (m.cps ++ n.cps).size ≤ big; rw [Array.size_append]; exact hl), k⟩)).le le_zS le_zS
theorem oy_ixS {z : Str} {n : Int} {c : Nat} (e : atI z.cps.toList n = some c) (k : K (iz yS ⟨#[c]⟩) Θ) : Ops fr Θ rIxS (iz yS z) (iz zI n) K :=
  Ops.tell te_S fun hl => (Ops.conv (ops_ixS (big_line hl) e ⟨_, le_yS (by show 1 ≤ big; decide), k⟩)).le le_zS (Vp.Le.refl _)
def SeqY {α : Type} (fr : Fr) (Θ : List Cel) (p : Vp) (r : Rep α) (xs : List α) : Prop := SeqP fr Θ p r xs ∧ ∀ F H v, OkF fr Θ F H → p.p F v → xs.length ≤ big
theorem sy_L {α : Type} {r : Rep α} {xs : List α} : SeqY fr Θ (iz (yL r) xs) r xs := ⟨fun F H v ok h => seq_L F H v ok h.1, fun _ _ _ _ h => h.2⟩
theorem sy_T {α : Type} [TNar α] {r : Rep α} {xs : List α} : SeqY fr Θ (iz (yT r) xs) r xs := ⟨fun F H v ok h => seq_T F H v ok h.1, fun _ _ _ _ h => h.2⟩
theorem seq_yS {p : Vp} {xs : List Str} (h : SeqY fr Θ p yS xs) : SeqP fr Θ p zS xs := fun F H v ok hv => by
  obtain ⟨a, vs, h1, h2, h3⟩ := h.1 F H v ok hv
  exact ⟨a, vs, h1, h2, Paired.imp2 (fun _ _ q => q.1) h3⟩
theorem oy_inS {Kf : PySem.W.Frag} {p : Vp} {z : Str} {xs : List Str} (h : SeqY fr Θ p yS xs) (k : K (iz zB (decide (z ∈ xs))) Θ) : Ops fr Θ (rIn Kf false) (iz yS z) p K := (ops_inS (seq_yS h) k).le le_zS (Vp.Le.refl _)
theorem oy_ninS {Kf : PySem.W.Frag} {p : Vp} {z : Str} {xs : List Str} (h : SeqY fr Θ p yS xs) (k : K (iz zB (!decide (z ∈ xs))) Θ) : Ops fr Θ (rIn Kf true) (iz yS z) p K := (ops_ninS (seq_yS h) k).le le_zS (Vp.Le.refl _)
theorem oy_ixL {Kf : PySem.W.Frag} {α : Type} {r : Rep α} {xs : List α} {n : Int} {x : α} (e : atI xs n = some x) (k : K (iz r x) Θ) : Ops fr Θ (rIxL Kf) (iz (yL r) xs) (iz zI n) K := (ops_ixL e k).le le_zL (Vp.Le.refl _)
theorem oy_ixT {Kf : PySem.W.Frag} {α : Type} [TNar α] {r : Rep α} {xs : List α} {n : Int} {x : α} (e : atI xs n = some x) (k : K (iz r x) Θ) : Ops fr Θ (rIxT Kf) (iz (yT r) xs) (iz zI n) K := (ops_ixT e k).le le_zT (Vp.Le.refl _)
theorem oy_ixC {Kf : PySem.W.Frag} {α : Type} {r : Rep α} {xs : List α} {n : Int} {x : α} {a : Addr} {j : Nat} (hj : Θ[j]? = some (cY a r xs)) (e : atI xs n = some x) (k : K (iz r x) Θ) : Ops fr Θ (rIxL Kf) (zAt a) (iz zI n) K := fun F H v w ok hv hw Q q => by
  obtain ⟨_, ⟨o, h2, ⟨⟨vs, rfl, h4⟩, h5⟩⟩, _⟩ := ok.ce _ (List.mem_of_getElem? hj)
  have hv : v = .ref a := hv
  have hw : w = .int n := hw
  subst hv hw
  obtain ⟨u, hu, hr⟩ := pvs_at h4 e
  exact ⟨a, vs, n, u, rfl, rfl, SqL.of h2, hu, q.go k ok hr⟩
theorem oy_ixLp0 {Kf : PySem.W.Frag} {α β : Type} {r : Rep α} {s : Rep β} {x : α × β} (k : K (iz r x.1) Θ) : Ops fr Θ (rIxL Kf) (iz (zLp r s) x) (iz zI 0) K := fun F H v w ok ⟨a, u, z, h1, h2, h3, h4⟩ hw Q q => by
  have hw : w = .int 0 := hw
  subst h1 hw
  exact ⟨a, _, 0, u, rfl, rfl, SqL.of (ok.fh _ _ h2), rfl, q.go k ok h3⟩
theorem oy_ixLp1 {Kf : PySem.W.Frag} {α β : Type} {r : Rep α} {s : Rep β} {x : α × β} (k : K (iz s x.2) Θ) : Ops fr Θ (rIxL Kf) (iz (zLp r s) x) (iz zI 1) K := fun F H v w ok ⟨a, u, z, h1, h2, h3, h4⟩ hw Q q => by
  have hw : w = .int 1 := hw
  subst h1 hw
  exact ⟨a, _, 1, z, rfl, rfl, SqL.of (ok.fh _ _ h2), rfl, q.go k ok h4⟩
theorem cy_len {Kf : PySem.W.Frag} {α : Type} {r : Rep α} {xs : List α} {p : Vp} (h : SeqY fr Θ p r xs) (k : xs.length ≤ big → K (iz zI xs.length) Θ) : Cbs fr Θ (rLenQ Kf) [p] K := fun F H vs ok hps Q q => by
  have hl : xs.length ≤ big := by
    cases hps with
    | cons a b => exact h.2 F H _ ok a
  exact cb_len h.1 (k hl) F H vs ok hps Q q
theorem cy_lenS {z : Str} (k : z.length ≤ big → K (iz zI z.length) Θ) : Cbs fr Θ (fun xs H Q => ∃ z, xs = [.str z] ∧ z.length ≤ sizeLine ∧ Q (.int z.length) H) [iz yS z] K := Cbs.tell te_S fun hl F H vs ok hps Q q => cb_lenS (big_line hl) (k hl) F H vs ok (by
  cases hps with
  | cons a b => cases b with
    | nil => exact .cons a.1 .nil) Q q
theorem cy_list {Kf : PySem.W.Frag} {α : Type} {r : Rep α} {xs : List α} {p : Vp} (h : SeqY fr Θ p r xs) (k : K (iz (yL r) xs) Θ) : Cbs fr Θ (rListQ Kf) [p] K := fun F H vs ok hps Q q => by
  have hl : xs.length ≤ big := by
    cases hps with
    | cons a b => exact h.2 F H _ ok a
  exact (Cbs.conv (cb_list h.1 ⟨_, le_yL hl, k⟩)) F H vs ok hps Q q
theorem cy_tupleL {Kf : PySem.W.Frag} {α : Type} [TNar α] {r : Rep α} {xs : List α} (k : K (iz (yT r) xs) Θ) : Cbs fr Θ (rTupQ Kf) [iz (yL r) xs] K := Cbs.tell te_L fun hl => Cbs.conv (cb_tuple (r := r) (xs := xs) (fun F H v ok ⟨⟨a, vs, h1, h2, h3⟩, _⟩ => ⟨a, vs, h1, .inl (ok.fh _ _ h2), h3⟩) ⟨_, le_yT hl, k⟩)
theorem cy_all {Kf : PySem.W.Frag} {xs : List Bool} (k : K (iz zB (xs.all id)) Θ) : Cbs fr Θ (rAll Kf) [iz (yL zB) xs] K := fun F H vs ok hps Q q => cb_all k F H vs ok (by
  cases hps with
  | cons a b => cases b with
    | nil => exact .cons a.1 .nil) Q q
theorem cy_intB {b : Bool} (k : K (iz zI (if b then 1 else 0)) Θ) : Cbs fr Θ (fun xs H Q => (∃ i, xs = [.int i] ∧ Q (.int i) H) ∨ ∃ k, xs = [.bl k] ∧ Q (.int (if k then 1 else 0)) H) [iz zB b] K := fun F H vs ok hps Q q => by
  cases hps with
  | cons h1 hp => cases hp with
    | nil =>
      have h1 : _ = V.bl b := h1
      subst h1
      exact .inr ⟨b, rfl, q.go k ok rfl⟩
theorem cutX_len {α : Type} {xs : List α} {lo hi : Option Int} {n : Nat} (h : xs.length ≤ n) : (cutX xs lo hi).length ≤ n := by
  unfold cutX
  have h1 := List.length_take_le (HT.sIx xs.length xs.length hi - HT.sIx xs.length 0 lo) (xs.drop (HT.sIx xs.length 0 lo))
  rw [List.length_take, List.length_drop]
  omega
theorem sy_slL {Kf : PySem.W.Frag} {α : Type} {r : Rep α} {xs : List α} {lo hi : Option Int} (k : K (iz (yL r) (cutX xs lo hi)) Θ) : Sls fr Θ (rSlL Kf) (iz (yL r) xs) lo hi K := Sls.tell te_L fun hl => (Sls.conv (sls_L ⟨_, le_yL (cutX_len hl), k⟩)).le le_zL
theorem oy_cat {α : Type} {r : Rep α} {xs ys : List α} (hl : xs.length + ys.length ≤ big) (k : K (iz (yL r) (xs ++ ys)) Θ) : Ops fr Θ rCat (iz (yL r) xs) (iz (yL r) ys) K := (Ops.conv (ops_cat (big_line hl) ⟨_, le_yL (by rw [List.length_append]; exact hl), k⟩)).le le_zL le_zL
theorem we_lstY {α : Type} {r : Rep α} {t : TA} (w : Wa fr Γ Θ t fun ps Θ1 => ∃ xs : List α, ps = xs.map (iz r) ∧ xs.length ≤ 1000 ∧ K (iz (yL r) xs) Θ1) : We fr Γ Θ (tLst t) K := We.conv (we_lst (r := r) fun σ F H ok env Q q => w σ F H ok env Q fun ps Θ1 ⟨xs, e, hl, k⟩ => q ps Θ1 ⟨xs, e, by rw [e, List.length_map]; exact hl, _, le_yL (Nat.le_trans hl (by decide)), k⟩)
theorem we_ownY {α : Type} (r : Rep α) {t : TA} (w : Wa fr Γ Θ t fun ps Θ1 => ∃ xs : List α, ps = xs.map (iz r) ∧ xs.length ≤ 1000 ∧ ∀ a, K (zAt a) (cY a r xs :: Θ1)) : We fr Γ Θ (tLst t) K := fun σ F H ok env Q q =>
  w σ F H ok env _ fun ps Θ1 ⟨xs, e, hl, k⟩ vs F1 H1 s1 ok1 hps => by
    subst e
    have h4 := pvs_map hps
    exact ⟨Nat.le_of_lt (small1000 (by rw [Paired.len h4]; exact hl)), fun p np => q _ _ (k p) _ F1 _ s1 (ok1.mkOwn (c := cY p r xs) np rfl ⟨⟨_, rfl, h4⟩, Nat.le_trans hl (by decide)⟩) rfl⟩
theorem tr1 {α : Type} {r : Rep α} {x : α} : TupR [iz r x] (iz (z1 r) x) := fun F a vs h hp => by
  cases hp with
  | cons h1 hp => cases hp with
    | nil => exact ⟨a, _, rfl, h, h1⟩
end
end L2
set_option Elab.async false
set_option linter.all false
set_option maxRecDepth 100000
set_option maxHeartbeats 4000000
namespace L2
open PySem PySem.Spec PyProof.Rows PySem.HErr
theorem mapD_comp {α β : Type} {f : α → (β → Prop) → Prop} {k : List β → Prop} : ∀ (xs : List α) (acc : List β), mapD xs acc f k = compD xs acc (fun x k => f x fun y => k (some y)) k
  | [], _ => rfl
  | x :: xs, acc => by
    show (f x fun y => mapD xs (acc ++ [y]) f k) = f x fun y => compD xs (acc ++ [y]) _ k
    congr 1
    funext y
    exact mapD_comp xs _
theorem compD_pure {α β : Type} {pr : α → Bool} {f : α → β} {k : List β → Prop} : ∀ (xs : List α) (acc : List β), compD xs acc (fun x k => ifD (pr x) (k (some (f x))) (k none)) k = k (acc ++ (xs.filter pr).map f)
  | [], acc => by simp [compD]
  | x :: xs, acc => by
    show ifD (pr x) (compD xs (acc ++ [f x]) _ k) (compD xs (acc ++ []) _ k) = _
    rw [compD_pure xs, compD_pure xs, List.filter_cons]
    unfold ifD
    cases pr x <;> simp
theorem mapD_pure {α β : Type} {f : α → β} {k : List β → Prop} : ∀ (xs : List α) (acc : List β), mapD xs acc (fun x k => k (f x)) k = k (acc ++ xs.map f)
  | [], acc => by simp [mapD]
  | x :: xs, acc => by
    show mapD xs (acc ++ [f x]) _ k = _
    rw [mapD_pure xs]
    simp
section
variable {fr : Fr} {Γ Γ' : Gam} {Θ Θ' : List Cel} {F F' H H' : Hp} {K : Vp → List Cel → Prop} {Q : VK}
theorem wi_yL {Kf : PySem.W.Frag} {tl : TE} {K : List Vp → List Cel → Prop} (w : We fr Γ Θ tl fun p Θ1 => ∃ (α : Type) (r : Rep α) (xs : List α), p = iz (yL r) xs ∧ (xs.length ≤ big → K (xs.map (iz r)) Θ1)) : Wi fr Γ Θ (iList Kf tl) K := fun σ F H ok env R q =>
  wi_list (fr := fr) (Γ := Γ) (Θ := Θ) (Kf := Kf) (tl := tl) (K := K) (fun σ F H ok env Q q => w σ F H ok env Q fun p Θ1 ⟨α, r, xs, e, k⟩ v F1 H1 s1 ok1 hp => by
    subst e
    exact q (iz (zL r) xs) Θ1 ⟨α, r, xs, rfl, k hp.2⟩ v F1 H1 s1 ok1 hp.1) σ F H ok env R q
theorem wi_yT {Kf : PySem.W.Frag} {tl : TE} {K : List Vp → List Cel → Prop} (w : We fr Γ Θ tl fun p Θ1 => ∃ (α : Type) (_ : TNar α) (r : Rep α) (xs : List α), p = iz (yT r) xs ∧ (xs.length ≤ big → K (xs.map (iz r)) Θ1)) : Wi fr Γ Θ (iTup Kf tl) K := fun σ F H ok env R q =>
  wi_tup (fr := fr) (Γ := Γ) (Θ := Θ) (Kf := Kf) (tl := tl) (K := K) (fun σ F H ok env Q q => w σ F H ok env Q fun p Θ1 ⟨α, _, r, xs, e, k⟩ v F1 H1 s1 ok1 hp => by
    subst e
    exact q (iz (zT r) xs) Θ1 ⟨α, _, r, xs, rfl, k hp.2⟩ v F1 H1 s1 ok1 hp.1) σ F H ok env R q
theorem kn_forW {wi : TI} {g : TG} {tb : TS} {D : Ends} {α S : Type} {r : Rep α} (G : S → Gam) (T : S → List Cel) (s0 : S)
    (w : Wi fr Γ Θ wi fun its Θ1 => ∃ (xs : List α) (body : α → S → (S → Prop) → (S → Prop) → Prop) (after : S → Prop) (vs : List Nat) (Γ2 : α → S → Gam), its = xs.map (iz r) ∧ Θ1 = T s0 ∧ GLe Γ (G s0) ∧ (∀ x s, TgR g vs (iz r x) (G s) (Γ2 x s)) ∧ forD xs s0 body after ∧
      (∀ fr', FrLe fr fr' → ∀ x s nx M, (∀ s' Γ' Θ', nx s' → GLe Γ' (G s') → Θ' = T s' → Kn fr' Γ' Θ' M) → (∀ s' Γ' Θ', after s' → GLe Γ' (G s') → Θ' = T s' → Kn fr' Γ' Θ' D.nx) → body x s nx after → Kn fr' (Γ2 x s) (T s) (tb { D with nx := M, ct := M, bk := D.nx })) ∧
      (∀ s, after s → Kn fr (G s) (T s) D.nx)) : Kn fr Γ Θ (tFor wi g tb D) :=
  kn_for fun σ F H ok env R q => w σ F H ok env R fun its Θ1 ⟨xs, body, after, vs, Γ2, e1, e2, l0, tg, hf, hs, hd⟩ => q its Θ1 (by
    subst e1 e2
    refine ⟨fun i Γ1 Θ2 => ∃ s, Γ1 = G s ∧ Θ2 = T s ∧ forD (xs.drop i) s body after, ⟨G s0, l0, s0, rfl, rfl, hf⟩, fun fr' le i p Γ1 Θ2 hi ⟨s, eg, et, h⟩ => ?_, fun Γ1 Θ2 ⟨s, eg, et, h⟩ => ?_⟩
    · subst eg et
      obtain ⟨x, hx, rfl⟩ := get_izs hi
      rw [drop_at hx] at h
      refine ⟨vs, _, tg x s, hs fr' le x s _ _ (fun s' Γ' Θ' hn gl e => ?_) (fun s' Γ' Θ' hn gl e => ?_) h⟩
      · subst e
        exact kn_mid ⟨G s', gl, s', rfl, rfl, hn⟩
      · subst e
        exact ((hd s' hn).fine le).le gl
    · subst eg et
      rw [List.length_map, List.drop_length] at h
      exact hd s h)
theorem kn_cutW {t u : TS} {D : Ends} {S : Type} (G : S → Gam) (T : S → List Cel) {f : (S → Prop) → Prop} {k : S → Prop} (h : joinD f k)
    (hb : ∀ M, (∀ s' Γ' Θ', k s' → GLe Γ' (G s') → Θ' = T s' → Kn fr Γ' Θ' M) → f k → Kn fr Γ Θ (t { D with nx := M })) (hr : ∀ s, k s → Kn fr (G s) (T s) (u D)) : Kn fr Γ Θ (C8.tCut t u D) :=
  kn_cut (fun Γ Θ => ∃ s, Γ = G s ∧ Θ = T s ∧ k s) (hb _ (fun s' Γ' Θ' hn gl e => by
    subst e
    exact kn_mid ⟨G s', gl, s', rfl, rfl, hn⟩) h) fun Γ Θ ⟨s, e1, e2, hk⟩ => by
    subst e1 e2
    exact hr s hk
theorem wt_andC {K : Bool → List Cel → Prop} {t u : TT} (w : Wt fr Γ Θ t fun b Θ1 => (b = true → Wt fr Γ Θ1 u K) ∧ (b = false → K false Θ1)) : Wt fr Γ Θ (tAnd t u) K := fun σ F H ok env Q q =>
  w σ F H ok env _ fun b Θ1 ⟨k1, k2⟩ F1 H1 s1 ok1 => by
    cases b with
    | true => rw [if_pos rfl]; exact k1 rfl σ F1 H1 ok1 (env.mono s1) Q fun c Θ2 kk F2 H2 s2 => q c Θ2 kk F2 H2 (s1.trans s2)
    | false => rw [if_neg Bool.false_ne_true]; exact q false Θ1 (k2 rfl) F1 H1 s1 ok1
theorem wt_orC {K : Bool → List Cel → Prop} {t u : TT} (w : Wt fr Γ Θ t fun b Θ1 => (b = false → Wt fr Γ Θ1 u K) ∧ (b = true → K true Θ1)) : Wt fr Γ Θ (tOr t u) K := fun σ F H ok env Q q =>
  w σ F H ok env _ fun b Θ1 ⟨k2, k1⟩ F1 H1 s1 ok1 => by
    cases b with
    | true => rw [if_pos rfl]; exact q true Θ1 (k1 rfl) F1 H1 s1 ok1
    | false => rw [if_neg Bool.false_ne_true]; exact k2 rfl σ F1 H1 ok1 (env.mono s1) Q fun c Θ2 kk F2 H2 s2 => q c Θ2 kk F2 H2 (s1.trans s2)
theorem we_andC {t u : TE} (w : We fr Γ Θ t fun p Θ1 => ∃ b, p = iz zB b ∧ (b = true → We fr Γ Θ1 u K) ∧ (b = false → K (iz zB false) Θ1)) : We fr Γ Θ (tAndV t u) K := fun σ F H ok env Q q =>
  w σ F H ok env _ fun p Θ1 ⟨b, e, k1, k2⟩ v F1 H1 s1 ok1 hp => by
    subst e
    refine ⟨b, hp, ?_⟩
    cases b with
    | true => rw [if_pos rfl]; exact k1 rfl σ F1 H1 ok1 (env.mono s1) Q (q.mono s1)
    | false => rw [if_neg Bool.false_ne_true]; exact q _ Θ1 (k2 rfl) _ F1 H1 s1 ok1 rfl
theorem orK {b : Bool} {f : (Bool → Prop) → Prop} {k : Bool → Prop} {u : TT} {K : Bool → List Cel → Prop} (h : orD b f k) (x : f k → Wt fr Γ Θ u fun c Θ' => Θ' = Θ ∧ k c) (kk : ∀ c, k c → K c Θ) : (b = false → Wt fr Γ Θ u K) ∧ (b = true → K true Θ) :=
  ⟨fun e σ F H ok env Q q => x (h.2 e) σ F H ok env Q fun c Θ' ⟨e1, hc⟩ => q c Θ' (by rw [e1]; exact kk c hc), fun e => kk true (h.1 e)⟩
theorem andKv {b : Bool} {f : (Bool → Prop) → Prop} {k : Bool → Prop} {u : TE} (h : andD b f k) (x : f k → We fr Γ Θ u fun p Θ' => Θ' = Θ ∧ ∃ c, p = iz zB c ∧ k c) (kk : ∀ c, k c → K (iz zB c) Θ) : ∃ b', iz zB b = iz zB b' ∧ (b' = true → We fr Γ Θ u K) ∧ (b' = false → K (iz zB false) Θ) :=
  ⟨b, rfl, fun e σ F H ok env Q q => x (h.1 e) σ F H ok env Q fun p Θ' ⟨e1, c, e2, hc⟩ => q p Θ' (by rw [e1, e2]; exact kk c hc), fun e => kk false (h.2 e)⟩
/-- a < b < c of ints -/
theorem we_chainI {h1 h2 : Int → Int → Bool} {ta tb tc : TE} (w : We fr Γ Θ ta fun p Θ1 => We fr Γ Θ1 tb fun q Θ2 => ∃ a b c, p = iz zI a ∧ q = iz zI b ∧ Ev fr Γ Θ2 tc (iz zI c) ∧ K (iz zB (h1 a b && h2 b c)) Θ2) : We fr Γ Θ (tChain (rI0 fun i j => .bl (h1 i j)) (rI0 fun i j => .bl (h2 i j)) ta tb tc) K := fun σ F H ok env Q q =>
  w σ F H ok env _ fun p Θ1 w1 v1 F1 H1 s1 ok1 hp1 => w1 σ F1 H1 ok1 (env.mono s1) _ fun p2 Θ2 ⟨a, b, c, e1, e2, w2, k⟩ v2 F2 H2 s2 ok2 hp2 => by
    subst e1 e2
    refine ⟨a, b, hp1, hp2, h1 a b, rfl, ?_⟩
    cases hb : h1 a b with
    | true =>
      rw [if_pos rfl]
      refine w2 σ F2 H2 ok2 ((env.mono s1).mono s2) _ fun o Θ3 ⟨e3, e4⟩ v3 F3 H3 s3 ok3 hp3 => ?_
      subst e3 e4
      rw [hb, Bool.true_and] at k
      exact ⟨b, c, hp2, hp3, q _ Θ3 k _ F3 H3 ((s1.trans s2).trans s3) ok3 rfl⟩
    | false =>
      rw [if_neg Bool.false_ne_true]
      rw [hb, Bool.false_and] at k
      exact q _ Θ2 k _ F2 H2 (s1.trans s2) ok2 rfl
theorem we_lcW {α β : Type} {r : Rep α} {s : Rep β} {wi : TI} {g : TG} {tt : TT} {te : TE} {vs : List Nat}
    (w : Wi fr Γ Θ wi fun its Θ1 => ∃ (xs : List α) (f : α → (Option β → Prop) → Prop) (k : List β → Prop) (Γ2 : α → Gam), its = xs.map (iz r) ∧ Θ1 = Θ ∧ xs.length ≤ big ∧ (∀ x, TgR g vs (iz r x) (wipeG Γ vs) (Γ2 x)) ∧ compD xs [] f k ∧
      (∀ x c kx, f x kx → Wt fr (Γ2 x) (c :: Θ) tt fun b Θ1 => (b = true → We fr (Γ2 x) Θ1 te fun q Θ' => Θ' = c :: Θ ∧ ∃ y, q = iz s y ∧ kx (some y)) ∧ (b = false → Θ1 = c :: Θ ∧ kx none)) ∧
      (∀ ys, k ys → ys.length ≤ big → K (iz (yL s) ys) Θ)) : We fr Γ Θ (tLc wi g tt te vs) K := fun σ F H ok env Q q => by
  refine w σ F H ok env _ fun its Θ1 ⟨xs, f, k, Γ2, e1, e2, hl, tg, hc, hs, hk⟩ J F1 H1 s1 ok1 jok => ?_
  subst e1 e2
  intro D nD
  refine ⟨fun i m H' => m = xs.length - i ∧ i ≤ xs.length ∧ ∃ F2 ys, Same F1 F2 ∧ OkF fr (cL D s ys :: Θ1) F2 H' ∧ ys.length ≤ i ∧ compD (xs.drop i) ys f k, ⟨xs.length, by simp, Nat.zero_le _, F1, [], Same.refl _, ok1.mkOwn (c := cL D s []) nD rfl ⟨[], rfl, .nil⟩, Nat.le_refl _, hc⟩, ?_⟩
  rintro i m H' ⟨rfl, hi, F2, ys, s2, ok2, yl, py⟩
  obtain ⟨j1, j2⟩ := jok F2 H' s2 ok2.fh
  by_cases hlt : i < xs.length
  · have hx : xs[i]? = some xs[i] := List.getElem?_eq_getElem hlt
    generalize xs[i] = x at hx
    obtain ⟨jg, jy⟩ := j1 i (iz r x) (by rw [List.getElem?_map, hx]; rfl)
    refine .inr ⟨jg, fun H3 => ∃ F3 ys, Same F1 F3 ∧ OkF fr (cL D s ys :: Θ1) F3 H3 ∧ ys.length ≤ i + 1 ∧ compD (xs.drop (i + 1)) ys f k, fun H3 p => ⟨xs.length - (i + 1), by omega, rfl, hlt, p⟩, fun v H3 y => ?_⟩
    obtain ⟨F3, e1, e2, e3, e4, e5⟩ := jy v H3 y
    have ok3 := ok2.grow e2 e1 e3 e4
    have s3 := s2.trans e1
    have hd : xs.drop i = x :: xs.drop (i + 1) := by
      obtain ⟨hl, e⟩ := List.getElem?_eq_some_iff.mp hx
      rw [List.drop_eq_getElem_cons hl, e]
    rw [hd] at py
    refine tg x (L2.wipe σ vs) F3 H3 v ok3.fh ((env.mono (s1.trans s3)).wipe vs) e5 _ fun σ2 env2 hw => ⟨?_, ?_⟩
    · rw [hw, wipe_idem]
    · refine hs x _ _ py σ2 F3 H3 ok3 env2 _ fun b Θ2 ⟨k1, k2⟩ F4 H4 s4 ok4 => ?_
      cases b with
      | true =>
        rw [if_pos rfl]
        refine k1 rfl σ2 F4 H4 ok4 (env2.mono s4) _ fun p Θ3 ⟨e8, y, e9, hy⟩ u F5 H5 s5 ok5 hp => ?_
        subst e8 e9
        obtain ⟨_, ⟨o, h2, acc, rfl, h4⟩, _⟩ := ok5.ce _ (List.mem_cons_self ..)
        have ok6 := ok5.mut (i := 0) (c := cL D s ys) (c' := cL D s (ys ++ [y])) (o := .lst (acc ++ [u])) rfl rfl rfl ⟨_, rfl, PySem.Paired.snoc h4 hp⟩
        refine ⟨acc, h2, ?_, F5, ys ++ [y], (s3.trans s4).trans s5, ok6, by rw [List.length_append]; show _ + 1 ≤ _; omega, hy⟩
        rw [Paired.len h4]
        exact big_lt (by omega)
      | false =>
        rw [if_neg Bool.false_ne_true]
        obtain ⟨e8, hn⟩ := k2 rfl
        subst e8
        have hn : compD (xs.drop (i + 1)) (ys ++ []) f k := hn
        rw [List.append_nil] at hn
        exact ⟨F4, ys, s3.trans s4, ok4, by omega, hn⟩
  · have e : i = xs.length := by omega
    subst e
    rw [List.drop_length] at py
    obtain ⟨_, ⟨o, h2, acc, rfl, h4⟩, _⟩ := ok2.ce _ (List.mem_cons_self ..)
    have ok3 := ok2.frz (i := 0) (c := cL D s ys) rfl rfl h2
    have sD : Same F2 (upd F2 D (.lst acc)) := same_upd (ok2.ce _ (List.mem_cons_self ..)).1
    have yb : ys.length ≤ big := by omega
    refine .inl ⟨by rw [List.length_map] at j2; exact j2, q _ _ (hk ys py yb) _ _ H' ((s1.trans s2).trans sD) ok3 ⟨⟨D, acc, rfl, upd_same, Paired.imp2 (fun _ _ h => s.mono sD h) h4⟩, yb⟩⟩
/-- with a test, all plain -/
theorem we_lcP {α β : Type} {r : Rep α} {s : Rep β} {wi : TI} {g : TG} {tt : TT} {te : TE} {vs : List Nat}
    (w : Wi fr Γ Θ wi fun its Θ1 => ∃ (xs : List α) (pr : α → Bool) (f : α → β) (Γ2 : α → Gam), its = xs.map (iz r) ∧ Θ1 = Θ ∧ xs.length ≤ big ∧ (∀ x, TgR g vs (iz r x) (wipeG Γ vs) (Γ2 x)) ∧
      (∀ x c, Et fr (Γ2 x) (c :: Θ) tt (pr x)) ∧ (∀ x c, Ev fr (Γ2 x) (c :: Θ) te (iz s (f x))) ∧ K (iz (yL s) ((xs.filter pr).map f)) Θ) : We fr Γ Θ (tLc wi g tt te vs) K :=
  we_lcW (r := r) (s := s) fun σ F H ok env R q => w σ F H ok env R fun its Θ1 ⟨xs, pr, f, Γ2, e1, e2, hl, tg, ht, he, k⟩ => q its Θ1 ⟨xs, fun x k => ifD (pr x) (k (some (f x))) (k none), (· = (xs.filter pr).map f), Γ2, e1, e2, hl, tg, by rw [compD_pure]; rfl,
    fun x c kx h σ F H ok env Q q => ht x c σ F H ok env Q fun b Θ1 ⟨e1, e2⟩ => q b Θ1 (by
      subst e1 e2
      exact ⟨fun hb => (he x c).imp fun p Θ' ⟨e3, e4⟩ => ⟨e4, _, e3, h.1 hb⟩, fun hb => ⟨rfl, h.2 hb⟩⟩), fun ys e _ => by rw [e]; exact k⟩
/-- without a test -/
theorem we_lcM {α β : Type} {r : Rep α} {s : Rep β} {wi : TI} {g : TG} {te : TE} {vs : List Nat}
    (w : Wi fr Γ Θ wi fun its Θ1 => ∃ (xs : List α) (f : α → (β → Prop) → Prop) (k : List β → Prop) (Γ2 : α → Gam), its = xs.map (iz r) ∧ Θ1 = Θ ∧ xs.length ≤ big ∧ (∀ x, TgR g vs (iz r x) (wipeG Γ vs) (Γ2 x)) ∧ mapD xs [] f k ∧
      (∀ x c kx, f x kx → We fr (Γ2 x) (c :: Θ) te fun q Θ' => Θ' = c :: Θ ∧ ∃ y, q = iz s y ∧ kx y) ∧
      (∀ ys, k ys → ys.length ≤ big → K (iz (yL s) ys) Θ)) : We fr Γ Θ (tLc wi g tYes te vs) K :=
  we_lcW (r := r) (s := s) fun σ F H ok env R q => w σ F H ok env R fun its Θ1 ⟨xs, f, k, Γ2, e1, e2, hl, tg, hm, he, hk⟩ => q its Θ1 ⟨xs, fun x k => f x fun y => k (some y), k, Γ2, e1, e2, hl, tg, by rw [← mapD_comp]; exact hm,
    fun x c kx h => wt_yes ⟨fun _ => (he x c _ h), (fun h => nomatch h)⟩, hk⟩
theorem we_lcM0 {α β : Type} {r : Rep α} {s : Rep β} {wi : TI} {g : TG} {te : TE} {vs : List Nat}
    (w : Wi fr Γ Θ wi fun its Θ1 => ∃ (xs : List α) (f : α → β) (Γ2 : α → Gam), its = xs.map (iz r) ∧ Θ1 = Θ ∧ xs.length ≤ big ∧ (∀ x, TgR g vs (iz r x) (wipeG Γ vs) (Γ2 x)) ∧
      (∀ x c, Ev fr (Γ2 x) (c :: Θ) te (iz s (f x))) ∧ K (iz (yL s) (xs.map f)) Θ) : We fr Γ Θ (tLc wi g tYes te vs) K :=
  we_lcM (r := r) (s := s) fun σ F H ok env R q => w σ F H ok env R fun its Θ1 ⟨xs, f, Γ2, e1, e2, hl, tg, he, k⟩ => q its Θ1 ⟨xs, fun x k => k (f x), (· = xs.map f), Γ2, e1, e2, hl, tg, by rw [mapD_pure]; rfl,
    fun x c kx h => (he x c).imp fun p Θ' ⟨e3, e4⟩ => ⟨e4, _, e3, h⟩, fun ys e _ => by rw [e]; exact k⟩
theorem kn_appY {Kf : PySem.W.Frag} {α : Type} {r : Rep α} {xs : List α} {a : Addr} {i j : Nat} {te : TE} {D : Ends} (hi : Γ[i]? = some (some (zAt a))) (hj : Θ[j]? = some (cY a r xs))
    (w : We fr Γ Θ te fun p Θ1 => ∃ x, p = iz r x ∧ Θ1[j]? = some (cY a r xs) ∧ xs.length < big ∧ Kn fr Γ (Θ1.set j (cY a r (xs ++ [x]))) D.nx) : Kn fr Γ Θ (tDrop (tBM Kf "list" rAppend (tVar i) (tCons te tNil)) D) := by
  refine kn_drop (we_bm (we_var hi ⟨fun F H v ok hv => ?_, wa_cons (w.imp fun p Θ1 ⟨x, e, hj1, hl, k⟩ => wa_nil ?_)⟩))
  · obtain ⟨_, ⟨o, h2, ⟨⟨vs, rfl, h4⟩, h5⟩⟩, _⟩ := ok.ce _ (List.mem_of_getElem? hj)
    have hv : v = .ref a := hv
    subst hv
    exact .inl ⟨rfl, vs, SqL.of h2⟩
  · subst e
    intro F H v vs ok hv hps Q q
    cases hps with
    | cons h1 hp => cases hp with
      | nil =>
        obtain ⟨_, ⟨o, h2, ⟨⟨us, rfl, h4⟩, h5⟩⟩, _⟩ := ok.ce _ (List.mem_of_getElem? hj1)
        have ok2 := ok.mut (c' := cY a r (xs ++ [x])) (o := .lst (us ++ [_])) hj1 rfl rfl ⟨⟨_, rfl, PySem.Paired.snoc h4 h1⟩, by rw [List.length_append]; exact hl⟩
        exact ⟨a, us, _, hv, rfl, h2, by rw [Paired.len h4]; exact big_lt (Nat.le_of_lt hl), q zNon _ k _ F _ (Same.refl F) ok2 rfl⟩
theorem set_same {σ : L2.St} {i : Nat} {v : V} (h : σ[i]? = some (some v)) : σ.set i (some v) = σ := by
  apply List.ext_getElem?
  intro m
  rw [List.getElem?_set]
  split
  · rename_i q
    subst q
    rw [if_pos (List.getElem?_eq_some_iff.mp h).1, h]
  · rfl
theorem kn_frzY {α : Type} {r : Rep α} {xs : List α} {a : Addr} {i j : Nat} {P : L2.St → Hp → Prop} (hi : Γ[i]? = some (some (zAt a))) (hj : Θ[j]? = some (cY a r xs)) (k : Kn fr (Γ.set i (some (iz (yL r) xs))) (Θ.eraseIdx j) P) : Kn fr Γ Θ P := fun σ F H ok env => by
  obtain ⟨v, h1, h2⟩ := env.get hi
  have h2 : v = .ref a := h2
  subst h2
  obtain ⟨h0, ⟨o, h3, ⟨⟨vs, rfl, h5⟩, h6⟩⟩, _⟩ := ok.ce _ (List.mem_of_getElem? hj)
  have h3 : H a = some (.lst vs) := h3
  have ok2 := ok.frz hj rfl h3
  have s2 : Same F (upd F a (.lst vs)) := same_upd h0
  have := (env.mono s2).set (i := i) (p := iz (yL r) xs) (v := .ref a) ⟨⟨a, vs, rfl, upd_same, Paired.imp2 (fun _ _ h => r.mono s2 h) h5⟩, h6⟩
  rw [set_same h1] at this
  exact k σ _ H ok2 this
theorem rt_frzY {α : Type} {r : Rep α} {xs : List α} {a : Addr} {j : Nat} {rt : VK} (hj : Θ[j]? = some (cY a r xs)) (k : Rt fr (Θ.eraseIdx j) rt (iz (yL r) xs)) : Rt fr Θ rt (zAt a) := fun v F H ok hp => by
  have hp : v = .ref a := hp
  subst hp
  obtain ⟨h0, ⟨o, h3, ⟨⟨vs, rfl, h5⟩, h6⟩⟩, _⟩ := ok.ce _ (List.mem_of_getElem? hj)
  have h3 : H a = some (.lst vs) := h3
  have ok2 := ok.frz hj rfl h3
  exact k _ _ H ok2 ⟨⟨a, vs, rfl, upd_same, Paired.imp2 (fun _ _ h => r.mono (same_upd h0) h) h5⟩, h6⟩
theorem kn_fall {rt : VK} (k : Rt fr Θ rt (iz yN ())) : Kn fr Γ Θ (fun _ H' => rt .non H') := fun σ F H ok env => k .non F H ok rfl
end
end L2
set_option Elab.async false
set_option linter.all false
set_option maxRecDepth 100000
set_option maxHeartbeats 4000000
namespace L2
open PySem PySem.Spec PyProof.Rows PySem.HErr
def preW {α β : Type} (ef : HE → Er) (args : α → List Vp) (r : Rep β) (m : α → DM β) : Pre := fun ps out err => ∃ x Q X, ps = args x ∧ m x Q X ∧ out = (fun p => ∃ y, Q y ∧ p = iz r y) ∧ err = fun e => ∃ z, X z ∧ e = ef z
def preBW {α β : Type} (args : α → List Vp) (r : Rep β) (m : α → DM β) : PreB := fun qs o => ∃ x Q, qs = args x ∧ m x Q noX ∧ o = fun p => ∃ y, Q y ∧ p = iz r y
def RetW {β : Type} (fr : Fr) (Qv : VK) (r : Rep β) (Q : β → Prop) : Prop := ∀ y, Q y → ∀ Θ, Rt fr Θ Qv (iz r y)
def RetBW {β : Type} (fr : Fr) (b l : Addr) (Qv : VK) (r : Rep β) (Q : β → Prop) : Prop := ∀ y, Q y → ∀ Θ, cBox true b l ∈ Θ → Rt fr Θ Qv (iz r y)
def RseW (fr : Fr) (E : XK) (ef : HE → Er) (X : HE → Prop) : Prop := ∀ z, X z → ∀ Γ Θ, Kr fr Γ Θ (fun cls d _ H => E cls d H) (ef z)
section
variable {fr fr' : Fr} {Γ Γ' : Gam} {Θ Θ' : List Cel} {F F' H H' : Hp} {K : Vp → List Cel → Prop} {Qv : VK}
theorem RetW.fine {β : Type} {r : Rep β} {Q : β → Prop} (h : RetW fr Qv r Q) (l : FrLe fr fr') : RetW fr' Qv r Q := fun y hy Θ => (h y hy Θ).fine l
theorem RetBW.fine {β : Type} {b l : Addr} {r : Rep β} {Q : β → Prop} (h : RetBW fr b l Qv r Q) (le : FrLe fr fr') : RetBW fr' b l Qv r Q := fun y hy Θ hc => (h y hy Θ hc).fine le
theorem RseW.fine {E : XK} {ef : HE → Er} {X : HE → Prop} (h : RseW fr E ef X) (l : FrLe fr fr') : RseW fr' E ef X := fun z hz Γ Θ σ F H ok env d us hd hf => h z hz Γ Θ σ F H (ok.le l) env d us hd hf
theorem sps_W {α β : Type} {ef : HE → Er} {args : α → List Vp} {r : Rep β} {m : α → DM β} {E : L2.St → XK} {ps : List Vp} {Q : β → Prop} {X : HE → Prop} (x : α) (h : m x Q X) (k : ∀ y, Q y → K (iz r y) Θ) (xx : ∀ z, X z → Kr fr Γ Θ (fun cls d σ H => E σ cls d H) (ef z)) (e : ps = args x := by rfl) : Sps fr Γ Θ (spA (preW ef args r m)) E ps K :=
  sps_A ⟨x, Q, X, e, h, rfl, rfl⟩ (fun p ⟨y, hy, e⟩ => by rw [e]; exact k y hy) fun er ⟨z, hz, e⟩ => by rw [e]; exact xx z hz
/-- nothing is raised -/
theorem sps_W0 {α β : Type} {ef : HE → Er} {args : α → List Vp} {r : Rep β} {m : α → DM β} {E : L2.St → XK} {ps : List Vp} {Q : β → Prop} (x : α) (h : m x Q noX) (k : ∀ y, Q y → K (iz r y) Θ) (e : ps = args x := by rfl) : Sps fr Γ Θ (spA (preW ef args r m)) E ps K := sps_W x h k (fun z hz => hz.elim) e
/-- what is raised leaves the def -/
theorem sps_WE {α β : Type} {ef : HE → Er} {args : α → List Vp} {r : Rep β} {m : α → DM β} {E : XK} {ps : List Vp} {Q : β → Prop} {X : HE → Prop} (hx : RseW fr E ef X) (x : α) (h : m x Q X) (k : ∀ y, Q y → K (iz r y) Θ) (e : ps = args x := by rfl) : Sps fr Γ Θ (spA (preW ef args r m)) (fun _ => E) ps K := sps_W x h k (fun z hz => hx z hz Γ Θ) e
def drawD (m : Int) (k : Int → Prop) : Prop := 0 < m ∧ m ≤ 10 ^ 40 ∧ ∀ n, 0 ≤ n → n < m → k n
section
variable {Kf : PySem.W.Frag} {mg : Str → Option Value} {C : Addr} {d : PlanD}
theorem FldR.conv {f : Str} {p q q' : Vp} (h : FldR Kf f p q) (hq : ∀ F v u, p.p F v → q.p F u → q'.p F u) : FldR Kf f p q' := fun F v hp => by
  obtain ⟨a, C, dx, fs, u, h1, h2, h3, h4, h5, h6⟩ := h F v hp
  exact ⟨a, C, dx, fs, u, h1, h2, h3, h4, h5, hq F v u hp h6⟩
theorem wd_big {z : Str} (h : Wd z) : z.length ≤ big := Nat.le_trans h.len (by decide)
theorem fy_places (T : PlanC Kf mg C) : FldP fr Θ Kf "places" (iz (zPlan C) d) (iz (yT yS) d.places) := ((fld_places T.k).conv fun F v u hp hq => le_TT (Nat.le_trans (plan_ok hp).p12 (by decide)) (s := yS) (fun F v x hx h => ⟨h, wd_big ((plan_ok hp).pa x hx)⟩) F u hq).p
theorem fy_begin (T : PlanC Kf mg C) : FldP fr Θ Kf "begin" (iz (zPlan C) d) (iz (yT zI) d.begin) := ((fld_begin T.k).conv fun F v u hp hq => le_TT (Nat.le_trans (Nat.le_of_eq (plan_ok hp).bl) (Nat.le_trans (plan_ok hp).p12 (by decide))) (fun F v x hx h => h) F u hq).p
theorem PlanOk.nl (h : PlanOk d) : d.names.length ≤ 16 := by unfold PlanD.names; rw [List.length_map]; exact h.s16
theorem PlanOk.nw (h : PlanOk d) {z : Str} (hz : z ∈ d.names) : Wd z := by
  obtain ⟨r, hr, rfl⟩ := List.mem_map.mp hz
  exact (h.st r hr).1
theorem fy_steps (T : PlanC Kf mg C) : FldP fr Θ Kf "steps" (iz (zPlan C) d) (iz (yT yS) d.names) := ((fld_steps T.k).conv fun F v u hp hq => le_TT (Nat.le_trans (plan_ok hp).nl (by decide)) (s := yS) (fun F v x hx h => ⟨h, wd_big ((plan_ok hp).nw hx)⟩) F u hq).p
theorem KVs.imp {α : Type} {r s : Rep α} {kvs : List (Key × V)} {rows : List (Str × α)} (h : KVs r F kvs rows) (f : ∀ v x, x ∈ rows → r.p F v x.2 → s.p F v x.2) : KVs s F kvs rows := by
  have : ∀ {kvs : List (Key × V)} {rows : List (Str × α)}, KVs r F kvs rows → (∀ v x, x ∈ rows → r.p F v x.2 → s.p F v x.2) → KVs s F kvs rows := by
    intro kvs rows h
    induction h with
    | nil => intro _; exact .nil
    | cons a _ ih => intro f; exact .cons ⟨a.1, f _ _ (List.mem_cons_self ..) a.2⟩ (ih fun v x hx => f v x (List.mem_cons_of_mem _ hx))
  exact this h f
theorem PlanOk.tl (h : PlanOk d) {r : SRow} (hr : r ∈ d.steps) : r.2.1.length ≤ 12 ∧ r.2.2.length ≤ 12 := by
  obtain ⟨_, _, h1, h2⟩ := h.st r hr
  have a1 := List.length_filter_le (fun p => decide (p ∈ r.2.1)) d.places
  have a2 := List.length_filter_le (fun p => decide (p ∈ r.2.2)) d.places
  have e1 : (d.places.filter fun p => decide (p ∈ r.2.1)) = r.2.1 := h1
  have e2 : (d.places.filter fun p => decide (p ∈ r.2.2)) = r.2.2 := h2
  rw [e1] at a1
  rw [e2] at a2
  have := h.p12
  exact ⟨by omega, by omega⟩
theorem fy_taken (T : PlanC Kf mg C) : FldP fr Θ Kf "taken" (iz (zPlan C) d) (iz (yD (yT yS)) d.tk) := ((fld_taken T.k).conv fun F v u hp hq => by
  have pk := plan_ok hp
  obtain ⟨a, kvs, h1, h2, h3⟩ := hq
  refine ⟨⟨a, kvs, h1, h2, h3.imp fun v x hx h => ?_⟩, by unfold PlanD.tk; rw [List.length_map]; exact Nat.le_trans pk.s16 (by decide)⟩
  obtain ⟨r, hr, rfl⟩ := List.mem_map.mp hx
  exact le_TT (Nat.le_trans (pk.tl hr).1 (by decide)) (s := yS) (fun F v x hx h => ⟨h, wd_big (pk.pa x (pk.tk hr hx))⟩) F v h).p
theorem fy_given (T : PlanC Kf mg C) : FldP fr Θ Kf "given" (iz (zPlan C) d) (iz (yD (yT yS)) d.gv) := ((fld_given T.k).conv fun F v u hp hq => by
  have pk := plan_ok hp
  obtain ⟨a, kvs, h1, h2, h3⟩ := hq
  refine ⟨⟨a, kvs, h1, h2, h3.imp fun v x hx h => ?_⟩, by unfold PlanD.gv; rw [List.length_map]; exact Nat.le_trans pk.s16 (by decide)⟩
  obtain ⟨r, hr, rfl⟩ := List.mem_map.mp hx
  exact le_TT (Nat.le_trans (pk.tl hr).2 (by decide)) (s := yS) (fun F v x hx h => ⟨h, wd_big (pk.pa x (pk.gv hr hx))⟩) F v h).p
end
def DicY {α : Type} (fr : Fr) (Θ : List Cel) (p : Vp) (r : Rep α) (rows : List (Str × α)) : Prop := DicP fr Θ p r rows ∧ ∀ F H v, OkF fr Θ F H → p.p F v → rows.length ≤ big
theorem dy_D {α : Type} {r : Rep α} {rows : List (Str × α)} : DicY fr Θ (iz (yD r) rows) r rows := ⟨fun F H v ok h => dic_D F H v ok h.1, fun _ _ _ _ h => h.2⟩
theorem wy_dget {td ty : TE} (w : We fr Γ Θ td fun p Θ1 => We fr Γ Θ1 ty fun q Θ2 => ∃ (α : Type) (r : Rep α) (rows : List (Str × α)) (n : Str) (x : α), DicY fr Θ2 p r rows ∧ q = iz yS n ∧ getR rows n = some x ∧ K (iz r x) Θ2) : We fr Γ Θ (tDGet td ty) K := we_dget (w.imp fun p Θ1 w1 => We.conv (w1.imp fun q Θ2 ⟨α, r, rows, n, x, h1, h2, h3, h4⟩ => ⟨iz zS n, by rw [h2]; exact le_zS, α, r, rows, n, x, h1.1, rfl, h3, h4⟩))
theorem kn_raiseY {tm : Bool} {C : Addr} {fs : List Str} {W : WX} {ta : TA} {D : Ends} (w : Wa fr Γ Θ ta fun ps Θ1 => ps.length = fs.length ∧ (tm = true → ∃ z r, ps = iz yS z :: r ∧ z.length ≤ 1000) ∧ Kr fr Γ Θ1 W ⟨C, (fs.zip ps).reverse⟩) : Kn fr Γ Θ (tRaiseE tm C fs W ta D) := fun σ F H ok env =>
  w σ F H ok env _ fun ps Θ1 ⟨hl, ht, k⟩ vs F1 H1 s1 ok1 hps => by
    refine ⟨by rw [← Paired.len hps]; exact hl, fun h => ?_, fun d nd => ?_⟩
    · obtain ⟨z, r, e, hz⟩ := ht h
      subst e
      cases hps with
      | cons a b => exact ⟨z, _, by rw [a.1.1], hz⟩
    · have s2 := ok1.sameF (o := .xd (fs.zip vs).reverse) nd
      exact k σ _ _ (ok1.new nd) ((env.mono s1).mono s2) d _ upd_same (Paired.rev (zip_ok (fs := fs) (ps_mono s2 hps)))
def erW (cs : EK → Addr) : HE → Er
  | .tooMany k l => ⟨cs .tooMany, [("limit", iz zI l), ("kind", iz yS k)]⟩
  | .badWord w => ⟨cs .badWord, [("word", iz yS w)]⟩
  | .double n => ⟨cs .double, [("name", iz yS n)]⟩
  | .badNumber n => ⟨cs .badNumber, [("number", iz zI n)]⟩
  | .empty n => ⟨cs .empty, [("name", iz yS n)]⟩
  | .unknown n => ⟨cs .unknown, [("name", iz yS n)]⟩
  | .inUse n => ⟨cs .inUse, [("name", iz yS n)]⟩
  | .badState ns => ⟨cs .badState, [("numbers", iz (yT zI) ns)]⟩
  | .notReady s p i => ⟨cs .notReady, [("at", iz zI i), ("place", iz yS p), ("step", iz yS s)]⟩
  | .notSound d => ⟨cs .notSound, [("paper", iz yX d)]⟩
  | .badPair n => ⟨cs .badPair, [("name", iz yS n)]⟩
  | .badText n => ⟨cs .badText, [("line_number", iz zI n)]⟩
  | .noUndo => ⟨cs .noUndo, []⟩
instance : Dat yS := ⟨PyData.str, 0, fun h => Dat.dp (r := zS) h.1, fun h => Dat.ok (r := zS) h.1, fun x => Dat.dl (r := zS) x, fun h => Dat.inj (r := zS) h⟩
instance {α : Type} {r : Rep α} [d : Dat r] : Dat (yL r) := ⟨Dat.enc (zL r), Dat.dep (zL r), fun h => Dat.dp (r := zL r) h.1, fun h => Dat.ok (r := zL r) h.1, fun x => Dat.dl (r := zL r) x, fun h => Dat.inj (r := zL r) h⟩
instance {α : Type} [TNar α] {r : Rep α} [d : Dat r] : Dat (yT r) := ⟨Dat.enc (zT r), Dat.dep (zT r), fun h => Dat.dp (r := zT r) h.1, fun h => Dat.ok (r := zT r) h.1, fun x => Dat.dl (r := zT r) x, fun h => Dat.inj (r := zT r) h⟩
end
section
variable {P : Program} {w : World} {K : PySem.W.Frag} {mg : Str → Option Value} {base : Heap} {x m qual : Str} {C : Addr} {st : Stmt} {N ps : List Str} {k : Nat} {α β : Type} {ef : HE → Er} {args : α → List Vp} {r : Rep β} {md : α → DM β}
theorem Src.okW (F : Src K mg x st ps) (S : FnScope N ps (defScope st)) (len : ∀ x, (args x).length = ps.length)
    (hbody : ∀ (f : Addr) (cdv : Value) (A : Around) (outer : List Env) (s : Shared) (H : Hp) (E : XK) (a : α) (Q : β → Prop) (X : HE → Prop), Room k (A.deeper (envOfC x (defScope st) s.heap.objs.size f cdv)) → md a Q X →
      ∃ t, PSs (cxOf CX0 P w K mg base N x (defScope st) f cdv A outer s H E).nox (defBody st) t ∧ ∀ fr Qv, RetW fr Qv r Q → Kn fr (envOf N (args a)) [] (t { nx := fun _ H' => Qv .non H', rt := Qv })) : Def P w K mg base CX0 (k + 1) x ps (spA (preW ef args r md)) :=
  F.okA S (fun qs out err ⟨a, Q, X, e, _⟩ => by rw [e]; exact len a) fun f cdv A outer s H E qs out err hr ⟨a, Q, X, e1, h, e2, e3⟩ => by
    subst e1 e2 e3
    obtain ⟨t, ht, hk⟩ := hbody f cdv A outer s H E a Q X hr h
    exact ⟨t, ht, fun fr Qv hret => hk fr Qv fun y hy Θ => hret _ ⟨y, hy, rfl⟩ Θ⟩
theorem Src.okWX (F : Src K mg x st ps) (S : FnScope N ps (defScope st)) (len : ∀ x, (args x).length = ps.length)
    (hbody : ∀ (f : Addr) (cdv : Value) (A : Around) (outer : List Env) (s : Shared) (H : Hp) (E : XK) (a : α) (Q : β → Prop) (X : HE → Prop), Room k (A.deeper (envOfC x (defScope st) s.heap.objs.size f cdv)) → md a Q X →
      ∃ t, PSs (cxOf (L2.CX P w) P w K mg base N x (defScope st) f cdv A outer s H E) (defBody st) t ∧ ∀ fr Qv, RetW fr Qv r Q → RseW fr E ef X → Kn fr (envOf N (args a)) [] (t { nx := fun _ H' => Qv .non H', rt := Qv })) : Def P w K mg base (L2.CX P w) (k + 1) x ps (spA (preW ef args r md)) :=
  F.okAX S (fun qs out err ⟨a, Q, X, e, _⟩ => by rw [e]; exact len a) fun f cdv A outer s H E qs out err hr ⟨a, Q, X, e1, h, e2, e3⟩ => by
    subst e1 e2 e3
    obtain ⟨t, ht, hk⟩ := hbody f cdv A outer s H E a Q X hr h
    exact ⟨t, ht, fun fr Qv hret hrse => hk fr Qv (fun y hy Θ => hret _ ⟨y, hy, rfl⟩ Θ) fun z hz Γ Θ => kr_E hrse ⟨z, hz, rfl⟩⟩
theorem SrcM.okW (F : SrcM K C m qual st ps) (S : FnScope N ps (defScope st)) (len : ∀ x, (args x).length = ps.length)
    (hbody : ∀ (f : Addr) (cdv : Value) (A : Around) (outer : List Env) (s : Shared) (H : Hp) (E : XK) (a : α) (Q : β → Prop) (X : HE → Prop), Room k (A.deeper (envOfC qual (defScope st) s.heap.objs.size f cdv)) → md a Q X →
      ∃ t, PSs (cxOf CX0 P w K mg base N qual (defScope st) f cdv A outer s H E).nox (defBody st) t ∧ ∀ fr Qv, RetW fr Qv r Q → Kn fr (envOf N (args a)) [] (t { nx := fun _ H' => Qv .non H', rt := Qv })) : DefM P w K mg base CX0 (k + 1) C m ps (spA (preW ef args r md)) :=
  F.okA S (fun qs out err ⟨a, Q, X, e, _⟩ => by rw [e]; exact len a) fun f cdv A outer s H E qs out err hr ⟨a, Q, X, e1, h, e2, e3⟩ => by
    subst e1 e2 e3
    obtain ⟨t, ht, hk⟩ := hbody f cdv A outer s H E a Q X hr h
    exact ⟨t, ht, fun fr Qv hret => hk fr Qv fun y hy Θ => hret _ ⟨y, hy, rfl⟩ Θ⟩
theorem SrcM.okWX (F : SrcM K C m qual st ps) (S : FnScope N ps (defScope st)) (len : ∀ x, (args x).length = ps.length)
    (hbody : ∀ (f : Addr) (cdv : Value) (A : Around) (outer : List Env) (s : Shared) (H : Hp) (E : XK) (a : α) (Q : β → Prop) (X : HE → Prop), Room k (A.deeper (envOfC qual (defScope st) s.heap.objs.size f cdv)) → md a Q X →
      ∃ t, PSs (cxOf (L2.CX P w) P w K mg base N qual (defScope st) f cdv A outer s H E) (defBody st) t ∧ ∀ fr Qv, RetW fr Qv r Q → RseW fr E ef X → Kn fr (envOf N (args a)) [] (t { nx := fun _ H' => Qv .non H', rt := Qv })) : DefM P w K mg base (L2.CX P w) (k + 1) C m ps (spA (preW ef args r md)) :=
  F.okAX S (fun qs out err ⟨a, Q, X, e, _⟩ => by rw [e]; exact len a) fun f cdv A outer s H E qs out err hr ⟨a, Q, X, e1, h, e2, e3⟩ => by
    subst e1 e2 e3
    obtain ⟨t, ht, hk⟩ := hbody f cdv A outer s H E a Q X hr h
    exact ⟨t, ht, fun fr Qv hret hrse => hk fr Qv (fun y hy Θ => hret _ ⟨y, hy, rfl⟩ Θ) fun z hz Γ Θ => kr_E hrse ⟨z, hz, rfl⟩⟩
end
end L2
set_option Elab.async false
set_option linter.all false
set_option maxRecDepth 100000
set_option maxHeartbeats 4000000
namespace L2
open PySem PySem.Spec PyProof.Rows PySem.HErr
def optD {α : Type} (o : Option α) (A : Prop) (B : α → Prop) : Prop := (o = none → A) ∧ ∀ y, o = some y → B y
section
variable {fr fr' : Fr} {Γ Γ' : Gam} {Θ Θ' : List Cel} {F F' H H' : Hp} {K : Vp → List Cel → Prop} {Qv : VK}
theorem wt_andP {K : Bool → List Cel → Prop} {t u : TT} (w : Wt fr Γ Θ t fun b Θ1 => ∃ c, (b = true → Et fr Γ Θ1 u c) ∧ K (b && c) Θ1) : Wt fr Γ Θ (tAnd t u) K :=
  wt_andC fun σ F H ok env Q q => w σ F H ok env Q fun b Θ1 ⟨c, h1, k⟩ => q b Θ1 ⟨fun e σ F H ok env Q q => h1 e σ F H ok env Q fun c' Θ' ⟨e1, e2⟩ => q c' Θ' (by
    subst e1 e2 e
    exact k), fun e => by
    subst e
    exact k⟩
theorem wt_orP {K : Bool → List Cel → Prop} {t u : TT} (w : Wt fr Γ Θ t fun b Θ1 => ∃ c, (b = false → Et fr Γ Θ1 u c) ∧ K (b || c) Θ1) : Wt fr Γ Θ (tOr t u) K :=
  wt_orC fun σ F H ok env Q q => w σ F H ok env Q fun b Θ1 ⟨c, h1, k⟩ => q b Θ1 ⟨fun e σ F H ok env Q q => h1 e σ F H ok env Q fun c' Θ' ⟨e1, e2⟩ => q c' Θ' (by
    subst e1 e2 e
    exact k), fun e => by
    subst e
    exact k⟩
theorem we_andP {t u : TE} (w : We fr Γ Θ t fun p Θ1 => ∃ b c, p = iz zB b ∧ (b = true → Ev fr Γ Θ1 u (iz zB c)) ∧ K (iz zB (b && c)) Θ1) : We fr Γ Θ (tAndV t u) K :=
  we_andC (w.imp fun p Θ1 ⟨b, c, e, h1, k⟩ => ⟨b, e, fun e => (h1 e).imp fun p Θ' ⟨e1, e2⟩ => by
    subst e1 e2 e
    exact k, fun e => by
    subst e
    exact k⟩)
theorem we_ifP {α : Type} {r : Rep α} {c : TT} {ta tb : TE} (w : Wt fr Γ Θ c fun b Θ1 => ∃ x y, (b = true → Ev fr Γ Θ1 ta (iz r x)) ∧ (b = false → Ev fr Γ Θ1 tb (iz r y)) ∧ K (iz r (bif b then x else y)) Θ1) : We fr Γ Θ (tIf c ta tb) K :=
  we_if fun σ F H ok env Q q => w σ F H ok env Q fun b Θ1 ⟨x, y, h1, h2, k⟩ => q b Θ1 ⟨fun e => (h1 e).imp fun p Θ' ⟨e1, e2⟩ => by
    subst e1 e2 e
    exact k, fun e => (h2 e).imp fun p Θ' ⟨e1, e2⟩ => by
    subst e1 e2 e
    exact k⟩
instance : NotNon yS := ⟨fun F v x h => by rw [h.1.1]; exact fun q => by cases q⟩
instance {α : Type} {r : Rep α} : NotNon (yL r) := ⟨fun F v x h => NotNon.nn (r := zL r) F v x h.1⟩
instance {α : Type} [TNar α] {r : Rep α} : NotNon (yT r) := ⟨fun F v x h => NotNon.nn (r := zT r) F v x h.1⟩
instance {α : Type} {r : Rep α} : NotNon (yD r) := ⟨fun F v x ⟨⟨a, kvs, h, _⟩, _⟩ => by rw [h]; exact fun q => by cases q⟩
instance {α β : Type} {r : Rep α} {s : Rep β} : NotNon (zLp r s) := ⟨fun F v x ⟨a, u, w, h, _⟩ => by rw [h]; exact fun q => by cases q⟩
instance {α β γ δ : Type} {r : Rep α} {s : Rep β} {t : Rep γ} {u : Rep δ} : NotNon (z4 r s t u) := ⟨fun F v x ⟨a, v1, v2, v3, v4, h, _⟩ => by rw [h]; exact fun q => by cases q⟩
instance {C : Addr} : NotNon (zPlan C) := ⟨fun F v x ⟨a, h, _⟩ => by rw [h]; exact fun q => by cases q⟩
theorem oy_isO {α : Type} {r : Rep α} [NotNon r] {o : Option α} (k : K (iz zB o.isNone) Θ) : Ops fr Θ (fun x y H Q => y = .non ∧ Q (.bl (decide (x = .non))) H) (iz (yO r) o) (iz yN ()) K := fun F H v w ok hv hw Q q => by
  refine ⟨hw, q.go k ok ?_⟩
  show V.bl _ = V.bl _
  cases o with
  | none => rw [show v = .non from hv]; rfl
  | some x => rw [decide_eq_false (NotNon.nn F v x hv)]; rfl
theorem optK {α : Type} {o : Option α} {A : Prop} {B : α → Prop} {G1 G2 : Prop} (h : optD o A B) (h1 : o = none → A → G1) (h2 : ∀ y, o = some y → B y → G2) : (o.isNone = true → G1) ∧ (o.isNone = false → G2) := by
  cases o with
  | none => exact ⟨fun _ => h1 rfl (h.1 rfl), (fun e => by cases e)⟩
  | some y => exact ⟨(fun e => by cases e), fun _ => h2 y rfl (h.2 y rfl)⟩
theorem le_Os {α : Type} {r : Rep α} {x : α} : (iz r x).Le (iz (yO r) (some x)) := fun F v h => h
theorem le_On {α : Type} {r : Rep α} : (iz yN ()).Le (iz (yO r) none) := fun F v h => h
theorem kn_asgL {α : Type} {r : Rep α} {te : TE} {i : Nat} {D : Ends} (w : We fr Γ Θ te fun p Θ1 => ∃ v : α, p = iz r v ∧ ∀ v', v' = v → Kn fr (Γ.set i (some (iz r v'))) Θ1 D.nx) : Kn fr Γ Θ (tAsg te (gName i) D) := kn_asg (w.imp fun p Θ1 ⟨v, e, k⟩ => by
  subst e
  exact k v rfl)
theorem intsF_big {n : Int} (h : n ≤ 100000) : (intsF 0 n.toNat).length ≤ big := by
  rw [intsF_len]
  have : big = 100000 := rfl
  omega
end
end L2
set_option Elab.async false
set_option linter.all false
set_option maxRecDepth 100000
set_option maxHeartbeats 4000000
namespace L2
open PySem PySem.Spec PyProof.Rows PySem.HErr
section
variable {fr fr' : Fr} {Γ Γ' : Gam} {Θ Θ' : List Cel} {F F' H H' : Hp} {K : Vp → List Cel → Prop} {Qv : VK}
theorem depth_mem {ds : List PyData} {d : PyData} {n : Nat} (h : PyData.depthAll ds ≤ n) (hd : d ∈ ds) : d.depth ≤ n := by
  induction ds with
  | nil => cases hd
  | cons a l ih =>
    simp only [PyData.depthAll] at h
    rcases List.mem_cons.mp hd with rfl | hd
    · omega
    · exact ih (by omega) hd
theorem xpAll_pvs : ∀ {ds : List PyData} {vs : List V}, xpAll F ds vs → (∀ d ∈ ds, d.depth ≤ 60) → PVs yX F vs ds
  | [], _, h, _ => by simp only [xpAll] at h; subst h; exact .nil
  | d :: ds, _, h, hd => by
    simp only [xpAll] at h
    obtain ⟨v, r, rfl, h2, h3⟩ := h
    exact .cons ⟨h2, hd d (List.mem_cons_self ..)⟩ (xpAll_pvs h3 fun x hx => hd x (List.mem_cons_of_mem _ hx))
class XDat {α : Type} (r : Rep α) where
  enc : α → PyData
  dep : Nat
  xd : ∀ {F : Hp} {v : V} {x : α}, r.p F v x → xp F (enc x) v ∧ (enc x).depth ≤ dep
theorem le_X {α : Type} {r : Rep α} [d : XDat r] {x : α} (h : d.dep ≤ 60 := by decide) : (iz r x).Le (iz yX (d.enc x)) := fun F v q => ⟨(d.xd q).1, Nat.le_trans (d.xd q).2 h⟩
instance : XDat yX := ⟨id, 60, fun h => h⟩
instance : XDat zI := ⟨PyData.int, 0, fun h => by simp only [xp, PyData.depth]; exact ⟨h, Nat.le_refl _⟩⟩
instance : XDat yN := ⟨fun _ => PyData.none, 0, fun h => by simp only [xp, PyData.depth]; exact ⟨h, Nat.le_refl _⟩⟩
instance : XDat yS := ⟨PyData.str, 0, fun h => by simp only [xp, PyData.depth]; exact ⟨⟨h.1.1, h.1.2, h.2⟩, Nat.le_refl _⟩⟩
theorem xd_all {α : Type} {r : Rep α} [d : XDat r] {vs : List V} {xs : List α} (h : PVs r F vs xs) : xpAll F (xs.map d.enc) vs ∧ PyData.depthAll (xs.map d.enc) ≤ d.dep := by
  induction h with
  | nil => exact ⟨by simp only [List.map_nil, xpAll], by simp only [List.map_nil, PyData.depthAll]; exact Nat.zero_le _⟩
  | cons a _ ih =>
    simp only [List.map_cons, xpAll, PyData.depthAll]
    have := (d.xd a).2
    have := ih.2
    exact ⟨⟨_, _, rfl, (d.xd a).1, ih.1⟩, by omega⟩
instance {α : Type} {r : Rep α} [d : XDat r] : XDat (yL r) := ⟨fun xs => .list (xs.map d.enc), d.dep + 1, fun ⟨⟨a, vs, h1, h2, h3⟩, h4⟩ => by
  have := (xd_all h3).2
  simp only [xp, PyData.depth]
  exact ⟨⟨a, vs, h1, h2, by rw [List.length_map]; exact h4, (xd_all h3).1⟩, by omega⟩⟩
/-- data of these things stand as the things -/
class XNar {α : Type} [TNar α] (r : Rep α) [XDat r] : Prop where
  nx : ∀ xs : List α, TNar.nar xs = true ∨ TNar.nar (xs.map (XDat.enc (r := r))) = TNar.nar xs
instance {α : Type} [TNar α] [TAll α] {r : Rep α} [XDat r] : XNar r := ⟨fun xs => .inl (TAll.all xs)⟩
theorem isSDs_strs (xs : List Str) : isSDs (xs.map PyData.str) = !xs.isEmpty := by
  unfold isSDs
  have : (xs.map PyData.str).all isSD = true := List.all_eq_true.mpr fun x hx => by
    obtain ⟨y, _, rfl⟩ := List.mem_map.mp hx
    rfl
  rw [this, Bool.and_true]
  cases xs <;> rfl
theorem isSDs_no {ds : List PyData} {d : PyData} (h : d ∈ ds) (e : isSD d = false) : isSDs ds = false := by
  unfold isSDs
  rw [show ds.all isSD = false from List.all_eq_false.mpr ⟨d, h, by rw [e]; exact Bool.false_ne_true⟩, Bool.and_false]
instance : XNar yS := ⟨fun xs => .inr (by show (!isSDs (xs.map PyData.str)) = xs.isEmpty; rw [isSDs_strs, Bool.not_not])⟩
instance : XNar yX := ⟨fun xs => .inr (by rw [show (XDat.enc (r := yX)) = id from rfl, List.map_id])⟩
theorem XNar.tup {α : Type} [TNar α] {r : Rep α} [XDat r] [k : XNar r] {F : Hp} {a : Addr} {vs : List V} {xs : List α} (h : TupB (TNar.nar xs) F a vs) : TupB (TNar.nar (xs.map (XDat.enc (r := r)))) F a vs := (k.nx xs).elim (fun e => .inl (h.nar e)) fun e => by rw [e]; exact h
instance {α : Type} [TNar α] {r : Rep α} [d : XDat r] [XNar r] : XDat (yT r) := ⟨fun xs => .tuple (xs.map d.enc), d.dep + 1, fun ⟨⟨a, vs, h1, h2, h3⟩, h4⟩ => by
  have := (xd_all h3).2
  simp only [xp, PyData.depth]
  exact ⟨⟨a, vs, h1, XNar.tup h2, by rw [List.length_map]; exact h4, (xd_all h3).1⟩, by omega⟩⟩
instance {α : Type} {r : Rep α} [d : XDat r] : XDat (z1 r) := ⟨fun x => .tuple [d.enc x], d.dep + 1, fun ⟨a, v1, h1, h2, h3⟩ => by
  have := (d.xd h3).2
  simp only [xp, xpAll, PyData.depth, PyData.depthAll]
  exact ⟨⟨a, _, h1, .inl h2, by show 1 ≤ big; decide, _, _, rfl, (d.xd h3).1, rfl⟩, by omega⟩⟩
instance {α β : Type} {r : Rep α} {s : Rep β} [d : XDat r] [e : XDat s] : XDat (z2 r s) := ⟨fun x => .tuple [d.enc x.1, e.enc x.2], max d.dep e.dep + 1, fun ⟨a, u, w, h1, h2, h3, h4⟩ => by
  have := (d.xd h3).2
  have := (e.xd h4).2
  simp only [xp, xpAll, PyData.depth, PyData.depthAll]
  exact ⟨⟨a, _, h1, .inl h2, by show 2 ≤ big; decide, _, _, rfl, (d.xd h3).1, _, _, rfl, (e.xd h4).1, rfl⟩, by omega⟩⟩
instance {α β γ : Type} {r : Rep α} {s : Rep β} {t : Rep γ} [d : XDat r] [e : XDat s] [f : XDat t] : XDat (z3 r s t) := ⟨fun x => .tuple [d.enc x.1, e.enc x.2.1, f.enc x.2.2], max d.dep (max e.dep f.dep) + 1, fun ⟨a, u, w, z, h1, h2, h3, h4, h5⟩ => by
  have := (d.xd h3).2
  have := (e.xd h4).2
  have := (f.xd h5).2
  simp only [xp, xpAll, PyData.depth, PyData.depthAll]
  exact ⟨⟨a, _, h1, .inl h2, by show 3 ≤ big; decide, _, _, rfl, (d.xd h3).1, _, _, rfl, (e.xd h4).1, _, _, rfl, (f.xd h5).1, rfl⟩, by omega⟩⟩
instance {α β γ δ : Type} {r : Rep α} {s : Rep β} {t : Rep γ} {u : Rep δ} [d : XDat r] [e : XDat s] [f : XDat t] [g : XDat u] : XDat (z4 r s t u) := ⟨fun x => .tuple [d.enc x.1, e.enc x.2.1, f.enc x.2.2.1, g.enc x.2.2.2], max (max d.dep e.dep) (max f.dep g.dep) + 1, fun ⟨a, v1, v2, v3, v4, h1, h2, h3, h4, h5, h6⟩ => by
  have := (d.xd h3).2
  have := (e.xd h4).2
  have := (f.xd h5).2
  have := (g.xd h6).2
  simp only [xp, xpAll, PyData.depth, PyData.depthAll]
  exact ⟨⟨a, _, h1, .inl h2, by show 4 ≤ big; decide, _, _, rfl, (d.xd h3).1, _, _, rfl, (e.xd h4).1, _, _, rfl, (f.xd h5).1, _, _, rfl, (g.xd h6).1, rfl⟩, by omega⟩⟩
instance {α β : Type} {r : Rep α} {s : Rep β} [d : XDat r] [e : XDat s] : XDat (zLp r s) := ⟨fun x => .list [d.enc x.1, e.enc x.2], max d.dep e.dep + 1, fun ⟨a, u, w, h1, h2, h3, h4⟩ => by
  have := (d.xd h3).2
  have := (e.xd h4).2
  simp only [xp, xpAll, PyData.depth, PyData.depthAll]
  exact ⟨⟨a, _, h1, h2, by show 2 ≤ big; decide, _, _, rfl, (d.xd h3).1, _, _, rfl, (e.xd h4).1, rfl⟩, by omega⟩⟩
instance {α β γ : Type} {r : Rep α} {s : Rep β} {t : Rep γ} [d : XDat r] [e : XDat s] [f : XDat t] : XDat (zL3 r s t) := ⟨fun x => .list [d.enc x.1, e.enc x.2.1, f.enc x.2.2], max d.dep (max e.dep f.dep) + 1, fun ⟨a, u, w, z, h1, h2, h3, h4, h5⟩ => by
  have := (d.xd h3).2
  have := (e.xd h4).2
  have := (f.xd h5).2
  simp only [xp, xpAll, PyData.depth, PyData.depthAll]
  exact ⟨⟨a, _, h1, h2, by show 3 ≤ big; decide, _, _, rfl, (d.xd h3).1, _, _, rfl, (e.xd h4).1, _, _, rfl, (f.xd h5).1, rfl⟩, by omega⟩⟩
instance {α : Type} {r : Rep α} [d : XDat r] : XDat (yO r) := ⟨fun o => match o with | none => .none | some x => d.enc x, d.dep, fun {F v x} h => by
  cases x with
  | none => simp only [xp, PyData.depth]; exact ⟨h, Nat.zero_le _⟩
  | some y => exact d.xd h⟩
theorem le_XT {x : PyData} {ds : List PyData} (e : x = .tuple ds) : (iz yX x).Le (iz (yT yX) ds) := fun F v h => by
  subst e
  obtain ⟨h, hd⟩ := h
  simp only [xp] at h
  simp only [PyData.depth] at hd
  obtain ⟨a, vs, h1, h2, h3, h4⟩ := h
  exact ⟨⟨a, vs, h1, h2, xpAll_pvs h4 fun d hm => depth_mem (n := 60) (by omega) hm⟩, h3⟩
mutual
theorem xp_dp {Kf : PySem.W.Frag} : ∀ (d : PyData) (v : V), xp F d v → Dp Kf F v d ∧ nb d = true
  | .none, _, h => by simp only [xp] at h; subst h; exact ⟨.non, rfl⟩
  | .int _, _, h => by simp only [xp] at h; subst h; exact ⟨.int _, rfl⟩
  | .str _, _, h => by
    simp only [xp] at h
    obtain ⟨rfl, h2, _⟩ := h
    exact ⟨.str _, h2.ok⟩
  | .bool _, _, h => by simp only [xp] at h
  | .dict _, _, h => by simp only [xp] at h
  | .list ds, _, h => by
    simp only [xp] at h
    obtain ⟨a, vs, rfl, h2, _, h4⟩ := h
    obtain ⟨g1, g2⟩ := xpAll_dp (Kf := Kf) ds vs h4
    exact ⟨.lst (SqL.of h2) g1, g2⟩
  | .tuple ds, _, h => by
    simp only [xp] at h
    obtain ⟨a, vs, rfl, h2, _, h4⟩ := h
    obtain ⟨g1, g2⟩ := xpAll_dp (Kf := Kf) ds vs h4
    exact ⟨.tup (h2.sq (Same.refl _)) g1, g2⟩
theorem xpAll_dp {Kf : PySem.W.Frag} : ∀ (ds : List PyData) (vs : List V), xpAll F ds vs → DpAll Kf F vs ds ∧ nbAll ds = true
  | [], _, h => by simp only [xpAll] at h; subst h; exact ⟨.nil, rfl⟩
  | d :: ds, _, h => by
    simp only [xpAll] at h
    obtain ⟨v, r, rfl, h2, h3⟩ := h
    obtain ⟨g1, g2⟩ := xp_dp (Kf := Kf) d v h2
    obtain ⟨g3, g4⟩ := xpAll_dp (Kf := Kf) ds r h3
    exact ⟨.cons g1 g3, by show (nb d && nbAll ds) = true; rw [g2, g4]; rfl⟩
end
open Classical in
noncomputable def xeq (x y : PyData) : Bool := decide (x = y)
theorem xeq_t {x y : PyData} : xeq x y = true ↔ x = y := by simp [xeq]
theorem xeq_eqv {x y : PyData} (hx : nb x = true) (hy : nb y = true) : PyData.eqv x y = xeq x y := by
  have h := eqv_nb x y hx hy
  cases e : PyData.eqv x y with
  | true => exact (xeq_t.mpr (h.mp e)).symm
  | false =>
    cases e2 : xeq x y with
    | true => rw [h.mpr (xeq_t.mp e2)] at e; cases e
    | false => rfl
/-- == of data of one kind -/
theorem oy_eqX {Kf : PySem.W.Frag} {α : Type} {r : Rep α} [d : XDat r] {x y : α} (hd : d.dep ≤ 64) (k : K (iz zB (xeq (d.enc x) (d.enc y))) Θ) : Ops fr Θ (rEqD Kf) (iz r x) (iz r y) K := fun F H v w ok hv hw Q q => by
  obtain ⟨a0, a3⟩ := d.xd hv
  obtain ⟨b0, b3⟩ := d.xd hw
  obtain ⟨a1, a2⟩ := xp_dp (Kf := Kf) _ v a0
  obtain ⟨b1, b2⟩ := xp_dp (Kf := Kf) _ w b0
  exact ⟨_, _, a1.up ok.fh, b1.up ok.fh, shaped_of a2 (Nat.le_trans a3 hd), shaped_of b2 (Nat.le_trans b3 hd), by rw [xeq_eqv a2 b2]; exact q.go k ok rfl⟩
theorem oy_neX {Kf : PySem.W.Frag} {α : Type} {r : Rep α} [d : XDat r] {x y : α} (hd : d.dep ≤ 64) (k : K (iz zB (!xeq (d.enc x) (d.enc y))) Θ) : Ops fr Θ (rNeD Kf) (iz r x) (iz r y) K := fun F H v w ok hv hw Q q => by
  obtain ⟨a0, a3⟩ := d.xd hv
  obtain ⟨b0, b3⟩ := d.xd hw
  obtain ⟨a1, a2⟩ := xp_dp (Kf := Kf) _ v a0
  obtain ⟨b1, b2⟩ := xp_dp (Kf := Kf) _ w b0
  exact ⟨_, _, a1.up ok.fh, b1.up ok.fh, shaped_of a2 (Nat.le_trans a3 hd), shaped_of b2 (Nat.le_trans b3 hd), by rw [xeq_eqv a2 b2]; exact q.go k ok rfl⟩
/-- papers: data that is a tuple -/
def pit : PyData → List PyData
  | .tuple ds => ds
  | _ => []
def yP : Rep PyData := ⟨fun F v d => (xp F d v ∧ d.depth ≤ 60) ∧ d = .tuple (pit d), fun e h => ⟨⟨xp_mono e _ _ h.1.1, h.1.2⟩, h.2⟩⟩
class PDat {α : Type} (r : Rep α) [d : XDat r] : Prop where
  t : ∀ x, d.enc x = .tuple (pit (d.enc x))
instance {α : Type} {r : Rep α} [XDat r] : PDat (z1 r) := ⟨fun _ => rfl⟩
instance {α : Type} [TNar α] {r : Rep α} [XDat r] [XNar r] : PDat (yT r) := ⟨fun _ => rfl⟩
instance {α β : Type} {r : Rep α} {s : Rep β} [XDat r] [XDat s] : PDat (z2 r s) := ⟨fun _ => rfl⟩
instance {α β γ : Type} {r : Rep α} {s : Rep β} {t : Rep γ} [XDat r] [XDat s] [XDat t] : PDat (z3 r s t) := ⟨fun _ => rfl⟩
instance {α β γ δ : Type} {r : Rep α} {s : Rep β} {t : Rep γ} {u : Rep δ} [XDat r] [XDat s] [XDat t] [XDat u] : PDat (z4 r s t u) := ⟨fun _ => rfl⟩
theorem le_PT {x : PyData} : (iz yP x).Le (iz (yT yX) (pit x)) := fun F v h => le_XT h.2 F v h.1
instance : XDat yP := ⟨id, 60, fun h => h.1⟩
instance : NotNon yP := ⟨fun F v x h q => by
  obtain ⟨⟨a, vs, h1, _⟩, _⟩ := le_PT F v h
  rw [q] at h1
  cases h1⟩
end
end L2
set_option Elab.async false
set_option linter.all false
set_option maxRecDepth 100000
set_option maxHeartbeats 4000000
namespace L2
open PySem PySem.Spec PyProof.Rows PySem.HErr
section
variable {fr fr' : Fr} {Γ Γ' : Gam} {Θ Θ' : List Cel} {F F' H H' : Hp} {K : Vp → List Cel → Prop} {Qv : VK}
def MkPr (fr : Fr) (Γ : Gam) (Θ : List Cel) (pre : Pre) (E : L2.St → XK) (ps : List Vp) (K : Vp → List Cel → Prop) : Prop := ∃ out err, pre ps out err ∧ (∀ p, out p → K p Θ) ∧ ∀ e, err e → Kr fr Γ Θ (fun cls d σ H => E σ cls d H) e
theorem we_mkP {C : Addr} {pre : Pre} {E : L2.St → XK} {t : TA} (w : Wa fr Γ Θ t fun ps Θ1 => MkPr fr Γ Θ1 pre E ps K) : We fr Γ Θ (tMkD C (spI C pre) E t) K := we_mk w
theorem mkW {α β : Type} {ef : HE → Er} {args : α → List Vp} {r : Rep β} {m : α → DM β} {E : L2.St → XK} {ps : List Vp} {Q : β → Prop} {X : HE → Prop} (x : α) (h : m x Q X) (k : ∀ y, Q y → K (iz r y) Θ) (xx : ∀ z, X z → Kr fr Γ Θ (fun cls d σ H => E σ cls d H) (ef z)) (e : ps = args x := by rfl) : MkPr fr Γ Θ (preW ef args r m) E ps K :=
  ⟨_, _, ⟨x, Q, X, e, h, rfl, rfl⟩, fun p ⟨y, hy, e⟩ => by rw [e]; exact k y hy, fun er ⟨z, hz, e⟩ => by rw [e]; exact xx z hz⟩
theorem mkW0 {α β : Type} {ef : HE → Er} {args : α → List Vp} {r : Rep β} {m : α → DM β} {E : L2.St → XK} {ps : List Vp} {Q : β → Prop} (x : α) (h : m x Q noX) (k : ∀ y, Q y → K (iz r y) Θ) (e : ps = args x := by rfl) : MkPr fr Γ Θ (preW ef args r m) E ps K := mkW x h k (fun z hz => hz.elim) e
theorem mkWE {α β : Type} {ef : HE → Er} {args : α → List Vp} {r : Rep β} {m : α → DM β} {E : XK} {ps : List Vp} {Q : β → Prop} {X : HE → Prop} (hx : RseW fr E ef X) (x : α) (h : m x Q X) (k : ∀ y, Q y → K (iz r y) Θ) (e : ps = args x := by rfl) : MkPr fr Γ Θ (preW ef args r m) (fun _ => E) ps K := mkW x h k (fun z hz => hx z hz Γ Θ) e
end
section
variable {P : Program} {w : World} {K : PySem.W.Frag} {mg : Str → Option Value} {base : Heap} {CX : CXT} {C : Addr} {ps : List Str} {k : Nat} {sp sp' : Sp}
theorem DefI.imp (D : DefI P w K mg base CX k C ps sp) (h : ∀ vs H Q E, sp' vs H Q E → sp vs H Q E) : DefI P w K mg base CX k C ps sp' := by
  obtain ⟨f, fd, hlk, h1, h2, h3⟩ := D.ex
  exact ⟨f, fd, hlk, h1, h2, h3.imp h⟩
end
abbrev yPR : Rep (List (Str × Int)) := yL (z2 yS zI)
abbrev ySR : Rep (List SRow) := yL (z3 yS (yL yS) (yL yS))
def RowsB (prs : List (Str × Int)) (srs : List SRow) : Prop := (∀ r ∈ prs, r.1.length ≤ 1000) ∧ ∀ r ∈ srs, r.1.length ≤ 1000 ∧ r.2.1.length ≤ 1000 ∧ r.2.2.length ≤ 1000 ∧ (∀ y ∈ r.2.1, y.length ≤ 1000) ∧ ∀ y ∈ r.2.2, y.length ≤ 1000
def heOf : PErr → HE
  | .tooMany k l => .tooMany k l
  | .badWord w => .badWord w
  | .double n => .double n
  | .badNumber n => .badNumber n
  | .empty n => .empty n
  | .unknown n => .unknown n
def mk_Plan (prs : List (Str × Int)) (srs : List SRow) : DM PlanD := fun Q X => RowsB prs srs ∧ (planDue prs srs = none → Q (planOf prs srs)) ∧ ∀ y, planDue prs srs = some y → X (heOf y)
def ecs (cs : EK → Addr) : ECs := ⟨cs .tooMany, cs .badWord, cs .double, cs .badNumber, cs .empty, cs .unknown⟩
theorem le_PR {prs : List (Str × Int)} : (iz yPR prs).Le (iz (zL (z2 zS zI)) prs) := le_LLr fun F v x _ ⟨a, u, w, h1, h2, h3, h4⟩ => ⟨a, u, w, h1, h2, h3.1, h4⟩
theorem le_SR {srs : List SRow} : (iz ySR srs).Le (iz (zL (z3 zS (zL zS) (zL zS))) srs) := le_LLr fun F v x _ ⟨a, u, w, z, h1, h2, h3, h4, h5⟩ => ⟨a, u, w, z, h1, h2, h3.1, le_LLr (r := yS) (s := zS) (fun F v x _ h => h.1) F w h4, le_LLr (r := yS) (s := zS) (fun F v x _ h => h.1) F z h5⟩
/-- the strings of an error that is due stand in the rows -/
def strE : PErr → Option Str
  | .tooMany _ _ => none
  | .badWord w => some w
  | .double n => some n
  | .badNumber _ => none
  | .empty n => some n
  | .unknown n => some n
theorem chk_str {ks seen ws : List Str} {x : Bool × Str} (h : chk ks seen ws = some x) : x.2 ∈ ws := chk_mem (n := x.2) (b := x.1) (by rw [h])
theorem placesDue_str {e : PErr} {z : Str} : ∀ {seen : List Str} {prs : List (Str × Int)}, placesDue seen prs = some e → strE e = some z → ∃ r ∈ prs, r.1 = z
  | _, [], h, _ => by cases h
  | seen, (w, n) :: r, h, hz => by
    rw [placesDue_cons] at h
    split at h
    · split at h
      · cases h; cases hz; exact ⟨_, List.mem_cons_self .., rfl⟩
      · split at h
        · obtain ⟨q, hq, e⟩ := placesDue_str h hz
          exact ⟨q, List.mem_cons_of_mem _ hq, e⟩
        · cases h; cases hz
    · cases h; cases hz; exact ⟨_, List.mem_cons_self .., rfl⟩
theorem nameErr_str {x : Bool × Str} : strE (nameErr x) = some x.2 := by
  obtain ⟨b, n⟩ := x
  cases b <;> rfl
theorem stepDue_str {ps seen : List Str} {s : SRow} {e : PErr} {z : Str} (h : stepDue ps seen s = some e) (hz : strE e = some z) : z = s.1 ∨ z ∈ s.2.1 ∨ z ∈ s.2.2 := by
  unfold stepDue at h
  split at h
  · split at h
    · cases h; cases hz; exact .inl rfl
    · split at h
      · cases h; cases hz; exact .inl rfl
      · split at h
        · rename_i x hx
          cases h
          rw [nameErr_str] at hz
          cases hz
          exact .inr (.inl (chk_str hx))
        · obtain ⟨x, hx, e2⟩ := Option.map_eq_some_iff.mp h
          subst e2
          rw [nameErr_str] at hz
          cases hz
          exact .inr (.inr (chk_str hx))
  · cases h; cases hz; exact .inl rfl
theorem stepsDue_str {ps : List Str} {e : PErr} {z : Str} : ∀ {seen : List Str} {srs : List SRow}, stepsDue ps seen srs = some e → strE e = some z → ∃ s ∈ srs, z = s.1 ∨ z ∈ s.2.1 ∨ z ∈ s.2.2
  | _, [], h, _ => by cases h
  | seen, s :: r, h, hz => by
    rw [stepsDue_cons] at h
    split at h
    · rename_i e2 he
      cases h
      exact ⟨s, List.mem_cons_self .., stepDue_str he hz⟩
    · obtain ⟨q, hq, h2⟩ := stepsDue_str h hz
      exact ⟨q, List.mem_cons_of_mem _ hq, h2⟩
theorem due_str {prs : List (Str × Int)} {srs : List SRow} {e : PErr} {z : Str} (hb : RowsB prs srs) (h : planDue prs srs = some e) (hz : strE e = some z) : z.length ≤ 1000 := by
  unfold planDue at h
  split at h
  · cases h; cases hz
  · split at h
    · cases h; cases hz
    · split at h
      · rename_i e2 he
        cases h
        obtain ⟨r, hr, e3⟩ := placesDue_str he hz
        rw [← e3]
        exact hb.1 r hr
      · obtain ⟨s, hs, h2⟩ := stepsDue_str h hz
        obtain ⟨b1, b2, b3, b4, b5⟩ := hb.2 s hs
        rcases h2 with h2 | h2 | h2
        · rw [h2]; exact b1
        · exact b4 z h2
        · exact b5 z h2
end L2
set_option Elab.async false
set_option linter.all false
set_option maxRecDepth 100000
set_option maxHeartbeats 4000000
namespace L2
open PySem PySem.Spec PyProof.Rows PySem.HErr
section
variable {X : Cx} {K : PySem.W.Frag} {pos : Pos}
theorem kpg_tup {es : List Expr} {k : Nat} {t : TGs} {n : Nat} (hc : X.calm = true) (h : PGs X es t) (hn : (assignEach es X.env).length = n := by rfl) (hst : (assignEach es X.env).findIdx? (·.1) = none := by rfl) (hK : X.K = K := by rfl) : PG X (.Tuple es k pos) (gTup K n t) := hK ▸ pg_tup hc h hn hst
end
end L2
set_option Elab.async false
set_option linter.all false
set_option maxRecDepth 100000
set_option maxHeartbeats 4000000
namespace L2
open PySem PySem.Spec PyProof.Rows PySem.HErr
section
variable {α β S : Type}
theorem forD_inv {body : α → S → (S → Prop) → (S → Prop) → Prop} {after : S → Prop} {xs : List α} {s : S} (I : List α → S → Prop) (h0 : I [] s)
    (hs : ∀ pre x post s nx, xs = pre ++ x :: post → I pre s → (∀ s', I (pre ++ [x]) s' → nx s') → body x s nx after) (hd : ∀ s, I xs s → after s) : forD xs s body after := by
  have key : ∀ (post pre : List α) (s : S), xs = pre ++ post → I pre s → forD post s body after := by
    intro post
    induction post with
    | nil =>
      intro pre s e h
      rw [List.append_nil] at e
      subst e
      exact hd s h
    | cons x post ih =>
      intro pre s e h
      exact hs pre x post s _ e h fun s' h' => ih (pre ++ [x]) s' (by rw [e]; simp) h'
  exact key xs [] s rfl h0
theorem mapD_ok {f : α → (β → Prop) → Prop} {k : List β → Prop} (g : α → β) : ∀ {xs : List α} {acc : List β}, (∀ x ∈ xs, ∀ k, k (g x) → f x k) → k (acc ++ xs.map g) → mapD xs acc f k
  | [], acc, _, h => by simpa [mapD] using h
  | x :: xs, acc, hf, h => hf x (List.mem_cons_self ..) _ (mapD_ok g (fun y hy => hf y (List.mem_cons_of_mem _ hy)) (by simpa using h))
theorem mapD_inv {f : α → (β → Prop) → Prop} {k : List β → Prop} (R : α → β → Prop) : ∀ {xs : List α} {acc : List β}, (∀ x ∈ xs, ∀ k, (∀ y, R x y → k y) → f x k) → (∀ ys, Paired R xs ys → k (acc ++ ys)) → mapD xs acc f k
  | [], acc, _, h => by simpa [mapD] using h [] .nil
  | x :: xs, acc, hf, h => hf x (List.mem_cons_self ..) _ fun y hy => mapD_inv R (fun z hz => hf z (List.mem_cons_of_mem _ hz)) fun ys hys => by
    have := h (y :: ys) (.cons hy hys)
    simpa using this
/-- a loop that lays by -/
theorem forD_push {T : Type} {body : α → List T → (List T → Prop) → (List T → Prop) → Prop} {after : List T → Prop} (f : α → T) {N : Nat} : ∀ {xs : List α} {s : List T}, (∀ x ∈ xs, ∀ s nx, s.length < N → nx (s ++ [f x]) → body x s nx after) → s.length + xs.length ≤ N → after (s ++ xs.map f) → forD xs s body after
  | [], s, _, _, h => by simpa [forD] using h
  | x :: xs, s, hb, hN, h => hb x (List.mem_cons_self ..) s _ (by rw [List.length_cons] at hN; omega) (forD_push f (fun y hy => hb y (List.mem_cons_of_mem _ hy)) (by rw [List.length_append]; rw [List.length_cons] at hN; show _ + 1 + _ ≤ _; omega) (by simpa using h))
theorem mapD_map {γ : Type} {g : γ → α} {f : α → (β → Prop) → Prop} {k : List β → Prop} : ∀ {xs : List γ} {acc : List β}, mapD (xs.map g) acc f k = mapD xs acc (fun x => f (g x)) k
  | [], _ => rfl
  | x :: xs, acc => by
    show (f (g x) fun y => mapD (xs.map g) (acc ++ [y]) f k) = f (g x) fun y => mapD xs (acc ++ [y]) _ k
    congr 1
    funext y
    exact mapD_map
theorem ifD_t {c : Bool} {A B : Prop} (e : c = true) (h : A) : ifD c A B := ⟨fun _ => h, fun f => by rw [e] at f; cases f⟩
theorem ifD_f {c : Bool} {A B : Prop} (e : c = false) (h : B) : ifD c A B := ⟨(fun f => by rw [e] at f; cases f), fun _ => h⟩
theorem andD_ok {b c : Bool} {f : (Bool → Prop) → Prop} {k : Bool → Prop} (hf : b = true → ∀ k, k c → f k) (h : k (b && c)) : andD b f k := by
  cases b with
  | true => exact ⟨fun _ => hf rfl _ h, (fun e => nomatch e)⟩
  | false => exact ⟨(fun e => nomatch e), fun _ => h⟩
theorem orD_ok {b c : Bool} {f : (Bool → Prop) → Prop} {k : Bool → Prop} (hf : b = false → ∀ k, k c → f k) (h : k (b || c)) : orD b f k := by
  cases b with
  | true => exact ⟨fun _ => h, (fun e => nomatch e)⟩
  | false => exact ⟨(fun e => nomatch e), fun _ => hf rfl _ h⟩
end
theorem atI_0 {α : Type} {x : α} {xs : List α} : atI (x :: xs) 0 = some x := atI_nat (j := 0) rfl
end L2
set_option Elab.async false
set_option linter.all false
set_option maxRecDepth 100000
set_option maxHeartbeats 4000000
namespace L2
open PySem PySem.Spec PyProof.Rows PySem.HErr
/-- the box at b: the script's copy at l, then ints -/
def cBg (b l : Addr) (ns is : List Int) : Cel := ⟨b, true, fun F o => o = .lst (.ref l :: is.map V.int) ∧ F l = some (.lst (ns.map V.int)) ∧ ns.length ≤ big, fun e ⟨h1, h2, h3⟩ => ⟨h1, e _ _ h2, h3⟩, fun h e => by subst e; simp at h⟩
abbrev BKind := Addr → Addr → Cel
def RetKW {β : Type} (mk : BKind) (fr : Fr) (b l : Addr) (Qv : VK) (r : Rep β) (Q : β → Prop) : Prop := ∀ y, Q y → ∀ Θ, mk b l ∈ Θ → Rt fr Θ Qv (iz r y)
section
variable {mk : BKind} {fr fr' : Fr} {Γ Γ' : Gam} {Θ Θ' : List Cel} {F F' H H' : Hp} {K : Vp → List Cel → Prop} {Qv : VK}
theorem RetKW.fine {β : Type} {b l : Addr} {r : Rep β} {Q : β → Prop} (h : RetKW mk fr b l Qv r Q) (le : FrLe fr fr') : RetKW mk fr' b l Qv r Q := fun y hy Θ hc => (h y hy Θ hc).fine le
theorem OkF.recell {c c' : Cel} {j : Nat} (k : OkF fr Θ F H) (hj : Θ[j]? = some c) (ha : c'.a = c.a) (ho : c'.own = c.own) (h : ∀ o, c.φ F o → c'.φ F o) : OkF fr (Θ.set j c') F H := by
  obtain ⟨_, ⟨o, h2, h3⟩, _⟩ := k.ce c (List.mem_of_getElem? hj)
  have := k.mut (c' := c') (o := o) hj ha ho (h o h3)
  have e : upd H c.a o = H := by
    funext a
    by_cases q : a = c.a
    · rw [q, upd_same, h2]
    · rw [upd_ne q]
  rw [e] at this
  exact this
theorem ob_ix {Kf : PySem.W.Frag} {b l : Addr} {j m : Nat} {ns is : List Int} {n : Int} {x : Int} (hj : Θ[j]? = some (cBg b l ns is)) (hn : n = (m : Int) + 1) (e : is[m]? = some x) (k : K (iz zI x) Θ) : Ops fr Θ (rIxL Kf) (zAt b) (iz zI n) K := fun F H v w ok hv hw Q q => by
  obtain ⟨_, ⟨o, h2, h3, h4, h5⟩, _⟩ := ok.ce _ (List.mem_of_getElem? hj)
  subst h3
  have hv : v = .ref b := hv
  have hw : w = .int n := hw
  subst hv hw hn
  refine ⟨b, _, _, .int x, rfl, rfl, SqL.of h2, ?_, q.go k ok rfl⟩
  rw [show ((m : Int) + 1) = ((m + 1 : Nat) : Int) by omega]
  refine atI_nat ?_
  rw [List.getElem?_cons_succ, List.getElem?_map, e]
  rfl
theorem ob_ix0 {Kf : PySem.W.Frag} {b l : Addr} {j : Nat} {ns is : List Int} (hj : Θ[j]? = some (cBg b l ns is)) (k : K (iz (yL zI) ns) Θ) : Ops fr Θ (rIxL Kf) (zAt b) (iz zI 0) K := fun F H v w ok hv hw Q q => by
  obtain ⟨_, ⟨o, h2, h3, h4, h5⟩, _⟩ := ok.ce _ (List.mem_of_getElem? hj)
  subst h3
  have hv : v = .ref b := hv
  have hw : w = .int 0 := hw
  subst hv hw
  exact ⟨b, _, _, .ref l, rfl, rfl, SqL.of h2, atI_nat (j := 0) rfl, q.go k ok ⟨⟨l, _, rfl, h4, ints_pvs⟩, h5⟩⟩
theorem kb_set {b l : Addr} {i j m : Nat} {ns is : List Int} {te ti : TE} {D : Ends} (hi : Γ[i]? = some (some (zAt b)))
    (w : We fr Γ Θ te fun p Θ1 => We fr Γ Θ1 ti fun q Θ2 => ∃ x n, p = iz zI x ∧ q = iz zI n ∧ n = (m : Int) + 1 ∧ m < is.length ∧ Θ2[j]? = some (cBg b l ns is) ∧ Kn fr Γ (Θ2.set j (cBg b l ns (is.set m x))) D.nx) : Kn fr Γ Θ (tAsg te (gSub (tVar i) ti rSetL) D) := fun σ F H ok env =>
  w σ F H ok env _ fun p Θ1 k v F1 H1 s1 ok1 hp => by
    obtain ⟨v0, h1, h2⟩ := (env.mono s1).get hi
    have h2 : v0 = .ref b := h2
    subst h2
    refine ⟨_, h1, k σ F1 H1 ok1 (env.mono s1) _ fun q Θ2 ⟨x, n, e1, e2, hn, hm, hj, k2⟩ w2 F2 H2 s2 ok2 hp2 => ?_⟩
    subst e1 e2 hn
    obtain ⟨_, ⟨o, h3, h4, h5, h6⟩, _⟩ := ok2.ce _ (List.mem_of_getElem? hj)
    subst h4
    have hp : v = .int x := hp
    subst hp
    refine ⟨b, _, _, m + 1, rfl, hp2, h3, ?_, k2 σ F2 _ (ok2.mut hj rfl rfl ⟨?_, h5, h6⟩) ((env.mono s1).mono s2)⟩
    · unfold ixN
      simp only [List.length_cons, List.length_map]
      rw [if_pos (by omega), if_pos (by omega)]
      congr 1
    · show HO.lst _ = HO.lst _
      rw [List.set_cons_succ, List.map_set]
end
end L2
set_option Elab.async false
set_option linter.all false
set_option maxRecDepth 100000
set_option maxHeartbeats 4000000
namespace L2
open PySem PySem.Spec PyProof.Rows PySem.HErr
def zScr (Kf : PySem.W.Frag) : Rep (List Int) := ⟨fun F v ns => ∃ a, v = .ref a ∧ SqL Kf F a (ns.map V.int) ∧ ns.length ≤ 63, fun e ⟨a, h1, h2, h3⟩ => ⟨a, h1, e.seq h2, h3⟩⟩
section
variable {fr fr' : Fr} {Γ Γ' : Gam} {Θ Θ' : List Cel} {F F' H H' : Hp} {K : Vp → List Cel → Prop} {Qv : VK}
theorem sy_slScr {Kf : PySem.W.Frag} {ns : List Int} {lo hi : Option Int} (k : K (iz (yL zI) (cutX ns lo hi)) Θ) : Sls fr Θ (rSlL Kf) (iz (zScr Kf) ns) lo hi K := fun F H v ok hv Q q => by
  obtain ⟨a, rfl, h2, h3⟩ := hv
  refine ⟨a, _, rfl, ok.fh.seq h2, fun l nl => q.new k ok nl ⟨⟨l, _, rfl, upd_same, ?_⟩, cutX_len (Nat.le_trans h3 (by decide))⟩⟩
  exact pvs_cut ints_pvs
end
end L2
set_option Elab.async false
set_option linter.all false
set_option maxRecDepth 100000
set_option maxHeartbeats 4000000
namespace L2
open PySem PySem.Spec PyProof.Rows PySem.HErr
section
variable {fr fr' : Fr} {Γ Γ' : Gam} {Θ Θ' : List Cel} {F F' H H' : Hp} {K : Vp → List Cel → Prop} {Qv : VK}
class QDat {α : Type} (r : Rep α) [DecidableEq α] where
  enc : α → PyData
  dep : Nat
  dp : ∀ {Kf : PySem.W.Frag} {F : Hp} {v : V} {x : α}, r.p F v x → Dp Kf F v (enc x)
  cl : ∀ {F : Hp} {v : V} {x : α}, r.p F v x → (enc x).canLay0 = true
  dl : ∀ x : α, (enc x).depth ≤ dep
  eq : ∀ x y : α, PyData.eqv (enc x) (enc y) = decide (x = y)
instance : QDat zI := ⟨PyData.int, 0, fun h => Dat.dp (r := zI) h, fun _ => by simp only [PyData.canLay0], fun x => Dat.dl (r := zI) x, fun x y => by simp only [PyData.eqv]; exact Bool.eq_iff_iff.mpr (by simp)⟩
instance : QDat zB := ⟨PyData.bool, 0, fun h => by cases (show _ = V.bl _ from h); exact .bl _, fun _ => by simp only [PyData.canLay0], fun x => by simp [PyData.depth], fun x y => by cases x <;> cases y <;> simp [PyData.eqv]⟩
instance : QDat yS := ⟨PyData.str, 0, fun h => Dat.dp (r := zS) h.1, fun h => by simp only [PyData.canLay0]; exact h.1.2.ok, fun x => Dat.dl (r := zS) x, fun x y => by simp only [PyData.eqv]; exact Bool.eq_iff_iff.mpr (by simp)⟩
theorem q_all {α : Type} [DecidableEq α] {r : Rep α} [d : QDat r] {Kf : PySem.W.Frag} {vs : List V} {xs : List α} (h : PVs r F vs xs) : DpAll Kf F vs (xs.map d.enc) ∧ PyData.canLayAll0 (xs.map d.enc) = true := by
  induction h with
  | nil => exact ⟨.nil, by simp only [List.map_nil, PyData.canLayAll0]⟩
  | cons a _ ih => exact ⟨.cons (d.dp a) ih.1, by simp only [List.map_cons, PyData.canLayAll0, d.cl a, ih.2, Bool.and_self]⟩
theorem q_dep {α : Type} [DecidableEq α] {r : Rep α} [d : QDat r] (xs : List α) : PyData.depthAll (xs.map d.enc) ≤ d.dep := depthAll_le fun y hy => by
  obtain ⟨x, _, rfl⟩ := List.mem_map.mp hy
  exact d.dl x
theorem q_eqs {α : Type} [DecidableEq α] {r : Rep α} [d : QDat r] : ∀ xs ys : List α, PyData.eqvAll (xs.map d.enc) (ys.map d.enc) = decide (xs = ys)
  | [], [] => by simp [PyData.eqvAll]
  | [], _ :: _ => by simp [PyData.eqvAll]
  | _ :: _, [] => by simp [PyData.eqvAll]
  | x :: xs, y :: ys => by simp [PyData.eqvAll, d.eq, q_eqs xs ys]
instance {α : Type} [DecidableEq α] {r : Rep α} [d : QDat r] : QDat (yL r) := ⟨fun xs => .list (xs.map d.enc), d.dep + 1, fun ⟨⟨a, vs, h1, h2, h3⟩, _⟩ => by subst h1; exact .lst (SqL.of h2) (q_all h3).1, fun ⟨⟨a, vs, h1, h2, h3⟩, _⟩ => by simp only [PyData.canLay0]; exact (q_all (Kf := []) h3).2, fun xs => by
  have := q_dep (r := r) xs
  simp only [PyData.depth]
  omega, fun x y => by simp only [PyData.eqv]; exact q_eqs x y⟩
instance {α : Type} [TNar α] [DecidableEq α] {r : Rep α} [d : QDat r] : QDat (yT r) := ⟨fun xs => .tuple (xs.map d.enc), d.dep + 1, fun ⟨⟨a, vs, h1, h2, h3⟩, _⟩ => by subst h1; exact .tup (h2.sq (Same.refl _)) (q_all h3).1, fun ⟨⟨a, vs, h1, h2, h3⟩, _⟩ => by simp only [PyData.canLay0]; exact (q_all (Kf := []) h3).2, fun xs => by
  have := q_dep (r := r) xs
  simp only [PyData.depth]
  omega, fun x y => by simp only [PyData.eqv]; exact q_eqs x y⟩
instance {α β : Type} [DecidableEq α] [DecidableEq β] {r : Rep α} {s : Rep β} [d : QDat r] [e : QDat s] : QDat (z2 r s) := ⟨fun x => .tuple [d.enc x.1, e.enc x.2], max d.dep e.dep + 1, fun ⟨a, u, w, h1, h2, h3, h4⟩ => by subst h1; exact .tup (SqT.of h2) (.cons (d.dp h3) (.cons (e.dp h4) .nil)),
  fun ⟨a, u, w, h1, h2, h3, h4⟩ => by simp only [PyData.canLay0, PyData.canLayAll0, d.cl h3, e.cl h4, Bool.and_self], fun x => by
    have h1 := d.dl x.1
    have h2 := e.dl x.2
    simp only [PyData.depth, PyData.depthAll]
    omega, fun x y => by
    simp only [PyData.eqv, PyData.eqvAll, d.eq, e.eq, Bool.and_true]
    exact Bool.eq_iff_iff.mpr (by simp [Prod.ext_iff])⟩
instance {α β γ : Type} [DecidableEq α] [DecidableEq β] [DecidableEq γ] {r : Rep α} {s : Rep β} {t : Rep γ} [d : QDat r] [e : QDat s] [f : QDat t] : QDat (z3 r s t) := ⟨fun x => .tuple [d.enc x.1, e.enc x.2.1, f.enc x.2.2], max d.dep (max e.dep f.dep) + 1, fun ⟨a, u, w, z, h1, h2, h3, h4, h5⟩ => by subst h1; exact .tup (SqT.of h2) (.cons (d.dp h3) (.cons (e.dp h4) (.cons (f.dp h5) .nil))),
  fun ⟨a, u, w, z, h1, h2, h3, h4, h5⟩ => by simp only [PyData.canLay0, PyData.canLayAll0, d.cl h3, e.cl h4, f.cl h5, Bool.and_self], fun x => by
    have h1 := d.dl x.1
    have h2 := e.dl x.2.1
    have h3 := f.dl x.2.2
    simp only [PyData.depth, PyData.depthAll]
    omega, fun x y => by
    simp only [PyData.eqv, PyData.eqvAll, d.eq, e.eq, f.eq, Bool.and_true]
    exact Bool.eq_iff_iff.mpr (by simp [Prod.ext_iff])⟩
instance {α β γ δ : Type} [DecidableEq α] [DecidableEq β] [DecidableEq γ] [DecidableEq δ] {r : Rep α} {s : Rep β} {t : Rep γ} {u : Rep δ} [d : QDat r] [e : QDat s] [f : QDat t] [g : QDat u] : QDat (z4 r s t u) := ⟨fun x => .tuple [d.enc x.1, e.enc x.2.1, f.enc x.2.2.1, g.enc x.2.2.2], max (max d.dep e.dep) (max f.dep g.dep) + 1, fun ⟨a, v1, v2, v3, v4, h1, h2, h3, h4, h5, h6⟩ => by subst h1; exact .tup (SqT.of h2) (.cons (d.dp h3) (.cons (e.dp h4) (.cons (f.dp h5) (.cons (g.dp h6) .nil)))),
  fun ⟨a, v1, v2, v3, v4, h1, h2, h3, h4, h5, h6⟩ => by simp only [PyData.canLay0, PyData.canLayAll0, d.cl h3, e.cl h4, f.cl h5, g.cl h6, Bool.and_self], fun x => by
    have h1 := d.dl x.1
    have h2 := e.dl x.2.1
    have h3 := f.dl x.2.2.1
    have h4 := g.dl x.2.2.2
    simp only [PyData.depth, PyData.depthAll]
    omega, fun x y => by
    simp only [PyData.eqv, PyData.eqvAll, d.eq, e.eq, f.eq, g.eq, Bool.and_true]
    exact Bool.eq_iff_iff.mpr (by simp [Prod.ext_iff])⟩
instance {α β γ δ ε : Type} [DecidableEq α] [DecidableEq β] [DecidableEq γ] [DecidableEq δ] [DecidableEq ε] {r : Rep α} {s : Rep β} {t : Rep γ} {u : Rep δ} {w : Rep ε} [d : QDat r] [e : QDat s] [f : QDat t] [g : QDat u] [i : QDat w] : QDat (z5 r s t u w) := ⟨fun x => .tuple [d.enc x.1, e.enc x.2.1, f.enc x.2.2.1, g.enc x.2.2.2.1, i.enc x.2.2.2.2], max (max d.dep e.dep) (max f.dep (max g.dep i.dep)) + 1, fun ⟨a, v1, v2, v3, v4, v5, h1, h2, h3, h4, h5, h6, h7⟩ => by subst h1; exact .tup (SqT.of h2) (.cons (d.dp h3) (.cons (e.dp h4) (.cons (f.dp h5) (.cons (g.dp h6) (.cons (i.dp h7) .nil))))),
  fun ⟨a, v1, v2, v3, v4, v5, h1, h2, h3, h4, h5, h6, h7⟩ => by simp only [PyData.canLay0, PyData.canLayAll0, d.cl h3, e.cl h4, f.cl h5, g.cl h6, i.cl h7, Bool.and_self], fun x => by
    have h1 := d.dl x.1
    have h2 := e.dl x.2.1
    have h3 := f.dl x.2.2.1
    have h4 := g.dl x.2.2.2.1
    have h5 := i.dl x.2.2.2.2
    simp only [PyData.depth, PyData.depthAll]
    omega, fun x y => by
    simp only [PyData.eqv, PyData.eqvAll, d.eq, e.eq, f.eq, g.eq, i.eq, Bool.and_true]
    exact Bool.eq_iff_iff.mpr (by simp [Prod.ext_iff])⟩
instance {α : Type} [DecidableEq α] {r : Rep α} [d : QDat r] : QDat (z1 r) := ⟨fun x => .tuple [d.enc x], d.dep + 1, fun ⟨a, v1, h1, h2, h3⟩ => by subst h1; exact .tup (SqT.of h2) (.cons (d.dp h3) .nil),
  fun ⟨a, v1, h1, h2, h3⟩ => by simp only [PyData.canLay0, PyData.canLayAll0, d.cl h3, Bool.and_self], fun x => by
    have h1 := d.dl x
    simp only [PyData.depth, PyData.depthAll]
    omega, fun x y => by simp only [PyData.eqv, PyData.eqvAll, d.eq, Bool.and_true]⟩
instance {α β : Type} [DecidableEq α] [DecidableEq β] {r : Rep α} {s : Rep β} [d : QDat r] [e : QDat s] : QDat (zLp r s) := ⟨fun x => .list [d.enc x.1, e.enc x.2], max d.dep e.dep + 1, fun ⟨a, u, w, h1, h2, h3, h4⟩ => by subst h1; exact .lst (SqL.of h2) (.cons (d.dp h3) (.cons (e.dp h4) .nil)),
  fun ⟨a, u, w, h1, h2, h3, h4⟩ => by simp only [PyData.canLay0, PyData.canLayAll0, d.cl h3, e.cl h4, Bool.and_self], fun x => by
    have h1 := d.dl x.1
    have h2 := e.dl x.2
    simp only [PyData.depth, PyData.depthAll]
    omega, fun x y => by
    simp only [PyData.eqv, PyData.eqvAll, d.eq, e.eq, Bool.and_true]
    exact Bool.eq_iff_iff.mpr (by simp [Prod.ext_iff])⟩
instance {α β γ : Type} [DecidableEq α] [DecidableEq β] [DecidableEq γ] {r : Rep α} {s : Rep β} {t : Rep γ} [d : QDat r] [e : QDat s] [f : QDat t] : QDat (zL3 r s t) := ⟨fun x => .list [d.enc x.1, e.enc x.2.1, f.enc x.2.2], max d.dep (max e.dep f.dep) + 1, fun ⟨a, u, w, z, h1, h2, h3, h4, h5⟩ => by subst h1; exact .lst (SqL.of h2) (.cons (d.dp h3) (.cons (e.dp h4) (.cons (f.dp h5) .nil))),
  fun ⟨a, u, w, z, h1, h2, h3, h4, h5⟩ => by simp only [PyData.canLay0, PyData.canLayAll0, d.cl h3, e.cl h4, f.cl h5, Bool.and_self], fun x => by
    have h1 := d.dl x.1
    have h2 := e.dl x.2.1
    have h3 := f.dl x.2.2
    simp only [PyData.depth, PyData.depthAll]
    omega, fun x y => by
    simp only [PyData.eqv, PyData.eqvAll, d.eq, e.eq, f.eq, Bool.and_true]
    exact Bool.eq_iff_iff.mpr (by simp [Prod.ext_iff])⟩
theorem q_shape {α : Type} [DecidableEq α] {r : Rep α} [d : QDat r] {v : V} {x : α} (hd : d.dep ≤ 64) (h : r.p F v x) : SeqAt.shaped (d.enc x) = true := by
  unfold SeqAt.shaped
  rw [d.cl h, decide_eq_true (Nat.le_trans (d.dl x) hd)]
  rfl
def yU {α β : Type} (r : Rep α) (s : Rep β) : Rep (α ⊕ β) := ⟨fun F v x => match x with | .inl a => r.p F v a | .inr b => s.p F v b, fun {F F' v x} e h => by
  cases x with
  | inl a => exact r.mono e h
  | inr b => exact s.mono e h⟩
/-- unlike kinds are never equal -/
class QApart {α β : Type} [DecidableEq α] [DecidableEq β] (r : Rep α) (s : Rep β) [d : QDat r] [e : QDat s] : Prop where
  ne : ∀ x y, PyData.eqv (d.enc x) (e.enc y) = false
  ne' : ∀ x y, PyData.eqv (e.enc y) (d.enc x) = false
instance {α β γ : Type} [DecidableEq α] [DecidableEq β] [DecidableEq γ] {r : Rep α} {s : Rep β} {t : Rep γ} [d : QDat r] [e : QDat s] [f : QDat t] : QApart yS (zL3 r s t) := ⟨fun x y => by simp [QDat.enc, PyData.eqv], fun x y => by simp [QDat.enc, PyData.eqv]⟩
instance {α β : Type} [DecidableEq α] [DecidableEq β] {r : Rep α} {s : Rep β} [d : QDat r] [e : QDat s] : QApart yS (zLp r s) := ⟨fun x y => by simp [QDat.enc, PyData.eqv], fun x y => by simp [QDat.enc, PyData.eqv]⟩
instance {α : Type} [DecidableEq α] {r : Rep α} [d : QDat r] : QApart yS (yL r) := ⟨fun x y => by simp [QDat.enc, PyData.eqv], fun x y => by simp [QDat.enc, PyData.eqv]⟩
instance {α : Type} [TNar α] [DecidableEq α] {r : Rep α} [d : QDat r] : QApart yS (yT r) := ⟨fun x y => by simp [QDat.enc, PyData.eqv], fun x y => by simp [QDat.enc, PyData.eqv]⟩
def numS (n : Int) : Str := Str.ofString (toString n)
theorem num_ascN (n : Nat) : Asc (numS (n : Int)) := fun c hc => by
  have e : (numS (n : Int)).cps.toList = TL.numL n := TL.tl_num n
  rw [e] at hc
  have := TL.numL_digits n c hc
  omega
theorem num_neg (n : Nat) : (numS (Int.negSucc n)).cps.toList = 45 :: TL.numL (n + 1) := by
  unfold numS
  rw [PyProof.Rows.signs_ofString]
  show ((("-" : String) ++ Nat.repr (n + 1)).toList).map Char.toNat = _
  rw [String.toList_append, List.map_append, Nat.toList_repr]
  rfl
theorem num_asc (n : Int) : Asc (numS n) := by
  cases n with
  | ofNat n => exact num_ascN n
  | negSucc n =>
    intro c hc
    rw [num_neg] at hc
    rcases List.mem_cons.mp hc with rfl | hc
    · decide
    · have := TL.numL_digits (n + 1) c hc
      omega
def CStr (n : Int) : Prop := n.natAbs < 10 ^ 200
theorem CStr.log {n : Int} (h : CStr n) : n.natAbs.log2 < 1920 := by
  unfold CStr at h
  by_cases e : n.natAbs = 0
  · rw [e]; decide
  · rw [Nat.log2_lt e]
    exact Nat.lt_trans h (by decide)
theorem num_len {n : Int} (h : CStr n) : (numS n).length ≤ 1921 := by
  have e := PySem.int_text_length_le (k := 1920) (by decide) h.log
  show (Str.ofString (toString n)).length ≤ _
  rw [PySem.ofString_length]
  exact e
theorem le_num {n : Int} (h : CStr n) : ∀ F, (iz yS (numS n)).p F (.str (Str.ofString (toString n))) := fun F => ⟨⟨rfl, num_asc n⟩, Nat.le_trans (num_len h) (by decide)⟩
theorem cy_str {n : Int} (h : CStr n) (k : K (iz yS (numS n)) Θ) : Cbs fr Θ (fun xs H Q => ∃ i : Int, xs = [.int i] ∧ i.natAbs.log2 < 1920 ∧ Q (.str (toString i)) H) [iz zI n] K := fun F H vs ok hps Q q => by
  cases hps with
  | cons h1 hp => cases hp with
    | nil =>
      have h1 : _ = V.int n := h1
      subst h1
      exact ⟨n, rfl, h.log, q.go k ok (le_num h F)⟩
end
end L2
set_option Elab.async false
set_option linter.all false
set_option maxRecDepth 100000
set_option maxHeartbeats 4000000
namespace L2
open PySem PySem.Spec PyProof.Rows PySem.HErr
section
variable {fr fr' : Fr} {Γ Γ' : Gam} {Θ Θ' : List Cel} {F F' H H' : Hp} {K : Vp → List Cel → Prop} {Qv : VK}
def tryD (hd : HE → Prop) (f : (HE → Prop) → Prop) : Prop := f hd
theorem tryD.go {hd : HE → Prop} {f : (HE → Prop) → Prop} (h : tryD hd f) : f hd := h
theorem joinD.go {S : Type} {f : (S → Prop) → Prop} {k : S → Prop} (h : joinD f k) : f k := h
theorem sps_WT {α β : Type} {ef : HE → Er} {args : α → List Vp} {r : Rep β} {m : α → DM β} {E : L2.St → XK} {ps : List Vp} {Q : β → Prop} {X : HE → Prop} (x : α) (h : m x Q X) (xx : ∀ z, X z → Kr fr Γ Θ (fun cls d σ H => E σ cls d H) (ef z)) (k : ∀ y, Q y → K (iz r y) Θ) (e : ps = args x := by rfl) : Sps fr Γ Θ (spA (preW ef args r m)) E ps K := sps_W x h k xx e
theorem cb_isD {Kf : PySem.W.Frag} {C D a d : Addr} {fs : List (Str × Vp)} {b : Bool} (T : IsC Kf C) (hk : PySem.W.kitOne Kf (.ref C) (.ref D) = some b) (k : K (iz zB b) Θ) : Cbs fr Θ (rIsD Kf (.ref C) (some d) a) [zExc a d fs, zAt D] K := fun F H vs ok hps Q q => by
  cases hps with
  | cons h1 hp => cases hp with
    | cons h2 hp => cases hp with
      | nil =>
        obtain ⟨rfl, us, h3, h4⟩ := h1
        have h2 : _ = V.ref D := h2
        subst h2
        exact ⟨C, d, us, _, .ref D, b, rfl, T, rfl, ok.fh _ _ h3, rfl, fun u hu => by cases hu; rfl, hk, q.go k ok rfl⟩
theorem we_cA {D : Addr} (k : K (zAt D) Θ) : We fr Γ Θ (tC (.ref D)) K := we_c (p := zAt D) (fun _ => rfl) k
instance {α β : Type} [DecidableEq α] [DecidableEq β] {r : Rep α} {s : Rep β} [d : QDat r] [e : QDat s] [ap : QApart r s] : QDat (yU r s) := ⟨fun x => match x with | .inl a => d.enc a | .inr b => e.enc b, max d.dep e.dep, fun {Kf F v x} h => by
  cases x with
  | inl a => exact d.dp h
  | inr b => exact e.dp h, fun {F v x} h => by
  cases x with
  | inl a => exact d.cl h
  | inr b => exact e.cl h, fun x => by
  cases x with
  | inl a => exact Nat.le_trans (d.dl a) (Nat.le_max_left _ _)
  | inr b => exact Nat.le_trans (e.dl b) (Nat.le_max_right _ _), fun x y => by
  cases x with
  | inl a => cases y with
    | inl b => exact (d.eq a b).trans (by simp)
    | inr b => exact (ap.ne a b).trans (by simp)
  | inr a => cases y with
    | inl b => exact (ap.ne' b a).trans (by simp)
    | inr b => exact (e.eq a b).trans (by simp)⟩
instance {α β γ : Type} [DecidableEq α] [DecidableEq β] [DecidableEq γ] {r : Rep α} {s : Rep β} {t : Rep γ} [d : QDat r] [e : QDat s] [f : QDat t] [a1 : QApart s t] [a2 : QApart r s] [a3 : QApart r t] : QApart r (yU s t) := ⟨fun x y => by
  cases y with
  | inl a => exact a2.ne x a
  | inr a => exact a3.ne x a, fun x y => by
  cases y with
  | inl a => exact a2.ne' x a
  | inr a => exact a3.ne' x a⟩
theorem Kr.le {W : WX} {e : Er} (h : Kr fr Γ' Θ W e) (g : GLe Γ Γ') : Kr fr Γ Θ W e := fun σ F H ok env d us hd hf => h σ F H ok (env.le g) d us hd hf
end
end L2
set_option Elab.async false
set_option linter.all false
set_option maxRecDepth 100000
set_option maxHeartbeats 4000000
namespace L2
open PySem PySem.Spec PyProof.Rows PySem.HErr
theorem pss_false {X : Cx} {ss : List Stmt} : PSs X ss (fun D σ H => False) := ⟨fun pins s σ H D I h => h.elim⟩
theorem un200 {k : Nat} {A : Around} (r : Room k A) : A.units + 200 < cLine := by
  have := r.un
  omega
theorem glo_plan {K : PySem.W.Frag} {mg : Str → Option Value} {C : Addr} (T : PlanC K mg C) : Glo mg "Plan" (.ref C) := ⟨_, T.gC, rfl⟩
inductive DHits (K : PySem.W.Frag) (H : Hp) (ls : List (Key × V)) : List (Key × V) → Bool → Prop
  | nil : DHits K H ls [] true
  | miss {k : Key} {v : V} {r : List (Key × V)} : valV ls k = none → DHits K H ls ((k, v) :: r) false
  | hit {k : Key} {v y : V} {d e : PyData} {r : List (Key × V)} {b : Bool} : valV ls k = some y → Dp K H v d → Dp K H y e → SeqAt.shaped d = true → SeqAt.shaped e = true → DHits K H ls r b → DHits K H ls ((k, v) :: r) (PyData.eqv d e && b)
def rEqDD (K : PySem.W.Frag) : R2 := fun x y H Q => ∃ a b ks ls r, x = .ref a ∧ y = .ref b ∧ H a = some (.dK ks) ∧ H b = some (.dK ls) ∧ DHits K H ls ks r ∧ Q (.bl (ks.length == ls.length && r)) H
theorem dhits_keq {X : Cx} {pins : List (Addr × Obj)} {σ : L2.St} {H : Hp} {s : Shared} (I : Inv X pins σ H s) {A : Around} (hu : A.units + 64 < cLine) {ls : List (Key × V)} {vb : List (Key × Value)} (rb : KV ls vb) {ks : List (Key × V)} {r : Bool} (h : DHits X.K H ls ks r) :
    ∀ {va : List (Key × Value)}, KV ks va → PySem.W.KeqHits A s vb va r := by
  induction h with
  | nil =>
    intro va ra
    cases ra
    exact .nil
  | @miss k v r e =>
    intro va ra
    cases ra with
    | @cons _ q _ qs h t =>
      obtain ⟨k', v'⟩ := q
      obtain ⟨h1, h2⟩ := h
      have h1 : k = k' := h1
      subst h1
      have rr : RelO (valV ls k) (valueAt vb k) := rb.val k
      rw [e] at rr
      refine .miss ?_
      cases hq : valueAt vb k with
      | none => rfl
      | some z => rw [hq] at rr; cases rr
  | @hit k v y d e r b ev dv dy sd se _ ih =>
    intro va ra
    cases ra with
    | @cons _ q _ qs h t =>
      obtain ⟨k', v'⟩ := q
      obtain ⟨h1, h2⟩ := h
      have h1 : k = k' := h1
      subst h1
      have rr : RelO (some y) (valueAt vb k) := by rw [← ev]; exact rb.val k
      obtain ⟨y', hy, ry⟩ := rr.some_of
      obtain ⟨as, r1⟩ := Dp.reads I d v v' dv h2
      obtain ⟨bs, r2⟩ := Dp.reads I e y y' dy ry
      exact .hit hy (SeqAt.eqAt_reads d e A s v' y' as bs r1 r2 (SeqAt.canLay_of_shaped sd) (SeqAt.canLay_of_shaped se) (SeqAt.room_of_shaped sd hu)) (ih t)
theorem op_eqDD {X : Cx} {K : PySem.W.Frag} (hu : X.A.units + 200 < cLine) (hK : X.K = K := by rfl) : OpR X (compareOp .Eq) (rEqDD K) := by
  subst hK
  intro pins s σ H x y v u Q I rx ry h
  obtain ⟨a, b, ks, ls, r, rfl, rfl, ea, eb, hh, q⟩ := h
  obtain rfl : v = Value.ref a := rx
  obtain rfl : u = Value.ref b := ry
  obtain ⟨_, ya, va, ra, da⟩ := (show ObjOk X.prog X.w H s.heap a (.dK ks) from I.hok a _ ea)
  obtain ⟨_, yb, vb, rb, db⟩ := (show ObjOk X.prog X.w H s.heap b (.dK ls) from I.hok b _ eb)
  have l1 : ks.length = va.length := ra.length
  have l2 : ls.length = vb.length := rb.length
  refine PySem.W.keq_eq (knd := mixKind X.prog X.w) (r := r) ya yb da db (by omega) (fun _ => dhits_keq I (by show X.A.units + 1 + 64 < cLine; omega) rb hh ra) ?_
  rw [← l1, ← l2]
  exact ⟨.bl _, H, I, rfl, q⟩
section
variable {fr fr' : Fr} {Γ Γ' : Gam} {Θ Θ' : List Cel} {F F' H H' : Hp} {K : Vp → List Cel → Prop} {Qv : VK}
def dEq {α : Type} [DecidableEq α] (xs ys : List (Str × α)) : Bool := decide (xs.length = ys.length) && xs.all fun p => decide (getR ys p.1 = some p.2)
theorem kvs_val {α : Type} {r : Rep α} {kvs : List (Key × V)} {rows : List (Str × α)} (h : KVs r F kvs rows) (n : Str) : (getR rows n = none → valV kvs (Sum.inr n) = none) ∧ ∀ x, getR rows n = some x → ∃ v, valV kvs (Sum.inr n) = some v ∧ r.p F v x := by
  induction h with
  | nil => exact ⟨fun _ => rfl, (fun x e => nomatch e)⟩
  | @cons kv x ks xs h t ih =>
    obtain ⟨h1, h2⟩ := h
    by_cases e : x.1 = n
    · have e1 : kv.1 = Sum.inr n := by rw [h1, e]
      have e2 : getR (x :: xs) n = some x.2 := by unfold getR; rw [List.find?_cons, decide_eq_true e]; rfl
      rw [e2, valV_pos e1]
      exact ⟨(fun q => nomatch q), fun y hy => ⟨_, rfl, by cases hy; exact h2⟩⟩
    · have e1 : ¬ kv.1 = Sum.inr n := fun q => by rw [h1] at q; exact e (Sum.inr.inj q)
      have e2 : getR (x :: xs) n = getR xs n := by unfold getR; rw [List.find?_cons, decide_eq_false e]
      rw [e2, valV_neg e1]
      exact ih
theorem kvs_hits {Kf : PySem.W.Frag} {α : Type} [DecidableEq α] {r : Rep α} [d : QDat r] (hd : d.dep ≤ 64) {ls : List (Key × V)} {ys : List (Str × α)} (fh : Same F H) (hl : KVs r F ls ys) {ks : List (Key × V)} {xs : List (Str × α)} (hk : KVs r F ks xs) : DHits Kf H ls ks (xs.all fun p => decide (getR ys p.1 = some p.2)) := by
  induction hk with
  | nil => exact .nil
  | @cons kv x ks xs h t ih =>
    obtain ⟨k, v⟩ := kv
    obtain ⟨h1, h2⟩ := h
    have h1 : k = Sum.inr x.1 := h1
    subst h1
    obtain ⟨g1, g2⟩ := kvs_val hl x.1
    rw [List.all_cons]
    cases e : getR ys x.1 with
    | none =>
      rw [decide_eq_false (by simp), Bool.false_and]
      exact .miss (g1 e)
    | some y =>
      obtain ⟨u, hu, hr⟩ := g2 y e
      have eb : decide (some y = some x.2) = PyData.eqv (d.enc x.2) (d.enc y) := by
        rw [d.eq]
        by_cases q : x.2 = y
        · rw [q]; simp
        · rw [decide_eq_false q, decide_eq_false (fun z => q (Option.some.inj z).symm)]
      rw [eb]
      exact .hit hu ((d.dp h2).up fh) ((d.dp hr).up fh) (q_shape hd h2) (q_shape hd hr) ih
theorem oy_eqDD {Kf : PySem.W.Frag} {α : Type} [DecidableEq α] {r : Rep α} [d : QDat r] {xs ys : List (Str × α)} (hd : d.dep ≤ 64) (k : K (iz zB (dEq xs ys)) Θ) : Ops fr Θ (rEqDD Kf) (iz (yD r) xs) (iz (yD r) ys) K := fun F H v w ok ⟨⟨a, ks, h1, h2, h3⟩, h4⟩ ⟨⟨b, ls, g1, g2, g3⟩, g4⟩ Q q => by
  refine ⟨a, b, ks, ls, _, h1, g1, ok.fh _ _ h2, ok.fh _ _ g2, kvs_hits hd ok.fh g3 h3, ?_⟩
  have e : (ks.length == ls.length && xs.all fun p => decide (getR ys p.1 = some p.2)) = dEq xs ys := by
    unfold dEq
    rw [Paired.len h3, Paired.len g3]
    congr 1
  rw [e]
  exact q.go k ok rfl
structure IsO (K : PySem.W.Frag) (C : Addr) : Prop where
  cl : Cls K C
  ha : PySem.W.findIn K (.ref C) "__class__" = some (some (.builtin "object.__class__"))
  hn : PySem.W.specialIn K (.builtin "object.__class__") "__get__" = some (some (.builtin "getset_descriptor.__get__"))
  htk : PySem.W.takesIn K (.builtin "object.__class__") = some true
  hm : PySem.W.mroIn K C (.type "object") = some true
theorem cb_isO {Kf : PySem.W.Frag} {C D : Addr} {p : Vp} {b : Bool} (T : IsO Kf C) (ic : InsC fr Θ p C) (hk : PySem.W.kitOne Kf (.ref C) (.ref D) = some b) (k : K (iz zB b) Θ) : Cbs fr Θ (rIsi Kf) [p, zAt D] K := fun F H vs ok hps Q q => by
  cases hps with
  | cons h1 hp => cases hp with
    | cons h2 hp => cases hp with
      | nil =>
        have h2 : _ = V.ref D := h2
        subst h2
        obtain ⟨a, dx, fs, rfl, h3⟩ := ic F H _ ok h1
        exact ⟨.ref a, .ref D, .ref C, .ref D, b, rfl, .own D, .base (.ins h3 T.cl T.ha T.hn T.htk T.hm), hk, q.go k ok rfl⟩
end
end L2
set_option Elab.async false
set_option linter.all false
set_option maxRecDepth 100000
set_option maxHeartbeats 4000000
namespace L2
open PySem PySem.Spec PyProof.Rows PySem.HErr
def LIM : Nat := 10 ^ 60
def cBagC (N : Nat) (b l : Addr) : Cel := ⟨b, true, fun F o => ∃ (ns : List Int) (i c r : Int), 0 ≤ i ∧ i ≤ (N : Int) ∧ (cBg b l ns [i, c, r]).φ F o, fun e ⟨ns, i, c, r, h1, h2, h3⟩ => ⟨ns, i, c, r, h1, h2, (cBg b l ns [i, c, r]).mono e h3⟩, fun ⟨ns, i, c, r, _, _, h⟩ e => (cBg b l ns [i, c, r]).nt h e⟩
def CelLe (c c' : Cel) : Prop := c'.a = c.a ∧ c'.own = c.own ∧ ∀ F o, c.φ F o → c'.φ F o
theorem CelLe.refl (c : Cel) : CelLe c c := ⟨rfl, rfl, fun _ _ h => h⟩
theorem CelLe.bag {N M : Nat} {b l : Addr} (h : N ≤ M) : CelLe (cBagC N b l) (cBagC M b l) := ⟨rfl, rfl, fun F o ⟨ns, i, c, r, h1, h2, h3⟩ => ⟨ns, i, c, r, h1, by omega, h3⟩⟩
def CLe (Θ Θ' : List Cel) : Prop := Paired CelLe Θ Θ'
theorem CLe.refl : ∀ Θ : List Cel, CLe Θ Θ
  | [] => .nil
  | c :: Θ => .cons (.refl c) (CLe.refl Θ)
theorem CLe.mem {Θ Θ' : List Cel} (h : CLe Θ Θ') {c' : Cel} (hc : c' ∈ Θ') : ∃ c ∈ Θ, CelLe c c' := by
  unfold CLe at h
  induction h with
  | nil => cases hc
  | cons a _ ih =>
    rcases List.mem_cons.mp hc with rfl | hc
    · exact ⟨_, List.mem_cons_self .., a⟩
    · obtain ⟨c, h1, h2⟩ := ih hc
      exact ⟨c, List.mem_cons_of_mem _ h1, h2⟩
theorem CLe.map {Θ Θ' : List Cel} (h : CLe Θ Θ') : Θ'.map Cel.a = Θ.map Cel.a := by
  unfold CLe at h
  induction h with
  | nil => rfl
  | cons a _ ih => rw [List.map_cons, List.map_cons, ih, a.1]
section
variable {fr fr' : Fr} {Γ Γ' : Gam} {Θ Θ' : List Cel} {F F' H H' : Hp} {K : Vp → List Cel → Prop} {Qv : VK}
theorem OkF.cle (k : OkF fr Θ F H) (h : CLe Θ Θ') : OkF fr Θ' F H := ⟨k.fh, k.f0, k.nw, k.h0, k.al, by rw [h.map]; exact k.nd, fun c' hc => by
  obtain ⟨c, h1, h2, h3, h4⟩ := h.mem hc
  obtain ⟨g1, ⟨o, g2, g3⟩, g4⟩ := k.ce c h1
  rw [h2, h3]
  exact ⟨g1, ⟨o, g2, h4 _ _ g3⟩, g4⟩⟩
theorem Kn.cle {P : L2.St → Hp → Prop} (k : Kn fr Γ Θ' P) (h : CLe Θ Θ') : Kn fr Γ Θ P := fun σ F H ok env => k σ F H (ok.cle h) env
theorem Rt.cle {rt : VK} {p : Vp} (k : Rt fr Θ' rt p) (h : CLe Θ Θ') : Rt fr Θ rt p := fun v F H ok hv => k v F H (ok.cle h) hv
theorem perm_set : ∀ {Θ : List Cel} {j : Nat} {c : Cel}, Θ[j]? = some c → ∃ Θr, Θ.Perm (c :: Θr) ∧ ∀ c', (Θ.set j c').Perm (c' :: Θr)
  | a :: Θ, 0, c, h => by
    have h : a = c := by simpa using h
    subst h
    exact ⟨Θ, .refl _, fun c' => .refl _⟩
  | a :: Θ, j + 1, c, h => by
    obtain ⟨Θr, h1, h2⟩ := perm_set (Θ := Θ) (j := j) (c := c) (by simpa using h)
    refine ⟨a :: Θr, (h1.cons a).trans (.swap _ _ _), fun c' => ?_⟩
    rw [List.set_cons_succ]
    exact ((h2 c').cons a).trans (.swap _ _ _)
def preKN (cost : Nat) (q : PreB) : PreC := fun ps Θ out err => ∃ b l N qs o, ps = zAt b :: qs ∧ Θ = [cBagC N b l] ∧ N + cost ≤ LIM ∧ q qs o ∧ out = (fun p Θ' => o p ∧ Θ' = [cBagC (N + cost) b l]) ∧ err = fun _ _ => False
theorem sps_KN {α β : Type} {args : α → List Vp} {r : Rep β} {m : α → DM β} {E : L2.St → XK} {ps : List Vp} {Q : β → Prop} {b l : Addr} {j N cost : Nat} (hj : Θ[j]? = some (cBagC N b l)) (hN : N + cost ≤ LIM) (x : α) (h : m x Q noX) (k : ∀ y, Q y → K (iz r y) (Θ.set j (cBagC (N + cost) b l))) (e : ps = zAt b :: args x := by rfl) : Sps fr Γ Θ (spC (preKN cost (preBW args r m))) E ps K := fun σ F H vs ok env hps Q' kq => by
  subst e
  obtain ⟨Θr, pm, pm2⟩ := perm_set hj
  have ok1 := ok.perm pm
  exact ⟨F, _, [cBagC N b l], _, _, ok1.fh, ok1.cellsAt, hps, ⟨b, l, N, _, _, rfl, rfl, hN, ⟨x, Q, rfl, h, rfl⟩, rfl, rfl⟩, fun p Θ' ⟨⟨y, hy, ep⟩, hΘ⟩ v F' H' ef hv => by
    subst hΘ ep
    exact kq _ _ (k y hy) v F' H' ef.ff ((ok1.eff ef).perm (pm2 _).symm) hv, fun e Θ' he => he.elim⟩
def RetKN {β : Type} (fr : Fr) (N : Nat) (b l : Addr) (Qv : VK) (r : Rep β) (Q : β → Prop) : Prop := ∀ y, Q y → ∀ Θ M, M ≤ N → cBagC M b l ∈ Θ → Rt fr Θ Qv (iz r y)
theorem RetKN.fine {β : Type} {N : Nat} {b l : Addr} {r : Rep β} {Q : β → Prop} (h : RetKN fr N b l Qv r Q) (le : FrLe fr fr') : RetKN fr' N b l Qv r Q := fun y hy Θ M hM hc => (h y hy Θ M hM hc).fine le
theorem kn_bagC {N : Nat} {b l : Addr} {j : Nat} {P : L2.St → Hp → Prop} (hj : Θ[j]? = some (cBagC N b l)) (k : ∀ (ns : List Int) (i c r : Int), 0 ≤ i → i ≤ (N : Int) → Kn fr Γ (Θ.set j (cBg b l ns [i, c, r])) P) : Kn fr Γ Θ P := fun σ F H ok env => by
  obtain ⟨_, ⟨o, h2, ns, i, c, r, h3, h4, h5⟩, _⟩ := ok.ce _ (List.mem_of_getElem? hj)
  obtain ⟨h6, h7, h8⟩ := h5
  subst h6
  have := ok.mut (c' := cBg b l ns [i, c, r]) (o := .lst (.ref l :: [i, c, r].map V.int)) hj rfl rfl ⟨rfl, h7, h8⟩
  have e : upd H (cBagC N b l).a (.lst (.ref l :: [i, c, r].map V.int)) = H := by
    funext a
    by_cases q : a = (cBagC N b l).a
    · rw [q, upd_same, h2]
    · rw [upd_ne q]
  rw [e] at this
  exact k ns i c r h3 h4 σ F H this env
theorem rt_bagC {N : Nat} {b l : Addr} {j : Nat} {ns : List Int} {i c r : Int} {rt : VK} {p : Vp} (hj : Θ[j]? = some (cBg b l ns [i, c, r])) (h1 : 0 ≤ i) (h2 : i ≤ (N : Int)) (k : Rt fr (Θ.set j (cBagC N b l)) rt p) : Rt fr Θ rt p := fun v F H ok hv => k v F H (ok.recell hj rfl rfl fun o ho => ⟨ns, i, c, r, h1, h2, ho⟩) hv
def preBagC (Kf : PySem.W.Frag) : PreN := fun ps out err => ∃ ns, ps = [iz (zScr Kf) ns] ∧ out = (fun p Θn => ∃ b l, p = zAt b ∧ Θn = [cBagC 0 b l]) ∧ err = noErr
theorem we_bagC {t : TA} (w : Wa fr Γ Θ t fun ps Θ1 => ∃ (ns : List Int) (c r : Int), ps = [iz (yL zI) ns, iz zI 0, iz zI c, iz zI r] ∧ ∀ b l, K (zAt b) (cBagC 0 b l :: Θ1)) : We fr Γ Θ (tLst t) K := fun σ F H ok env Q q =>
  w σ F H ok env _ fun ps Θ1 ⟨ns, c, r, e, k⟩ vs F1 H1 s1 ok1 hps => by
    subst e
    cases hps with
    | cons hl hi =>
      obtain ⟨⟨l, us, rfl, g2, g3⟩, g4⟩ := hl
      have e1 := pvs_I g3
      subst e1
      have e2 := pvs_I (pvs_map (r := zI) (xs := [0, c, r]) hi)
      subst e2
      refine ⟨?_, fun p np => q _ _ (k p l) _ F1 _ s1 (ok1.mkOwn (c := cBagC 0 p l) np rfl ⟨ns, 0, c, r, by decide, by decide, rfl, g2, g4⟩) rfl⟩
      exact Nat.le_of_lt (small1000 (show 4 ≤ 1000 by decide))
theorem kn_forK {wi : TI} {g : TG} {tb : TS} {D : Ends} {α S : Type} {r : Rep α} (G : S → Gam) (T : Nat → S → List Cel) (Te : S → List Cel) (s0 : S)
    (w : Wi fr Γ Θ wi fun its Θ1 => ∃ (xs : List α) (body : α → S → (S → Prop) → (S → Prop) → Prop) (after : S → Prop) (vs : List Nat) (Γ2 : α → S → Gam), its = xs.map (iz r) ∧ CLe Θ1 (T 0 s0) ∧ GLe Γ (G s0) ∧ (∀ x s, TgR g vs (iz r x) (G s) (Γ2 x s)) ∧ forD xs s0 body after ∧
      (∀ fr', FrLe fr fr' → ∀ i x s nx M, i < xs.length → (∀ s' Γ' Θ', nx s' → GLe Γ' (G s') → CLe Θ' (T (i + 1) s') → Kn fr' Γ' Θ' M) → (∀ s' Γ' Θ', after s' → GLe Γ' (G s') → CLe Θ' (Te s') → Kn fr' Γ' Θ' D.nx) → body x s nx after → Kn fr' (Γ2 x s) (T i s) (tb { D with nx := M, ct := M, bk := D.nx })) ∧
      (∀ s, CLe (T xs.length s) (Te s)) ∧ (∀ s, after s → Kn fr (G s) (Te s) D.nx)) : Kn fr Γ Θ (tFor wi g tb D) :=
  kn_for fun σ F H ok env R q => w σ F H ok env (fun J H' => R J H') fun its Θ1 ⟨xs, body, after, vs, Γ2, e1, e2, l0, tg, hf, hs, hte, hd⟩ J F1 H1 s1 ok1 jok => q its (T 0 s0) (by
    subst e1
    refine ⟨fun i Γ1 Θ2 => ∃ s, Γ1 = G s ∧ Θ2 = T i s ∧ forD (xs.drop i) s body after, ⟨G s0, l0, s0, rfl, rfl, hf⟩, fun fr' le i p Γ1 Θ2 hi ⟨s, eg, et, h⟩ => ?_, fun Γ1 Θ2 ⟨s, eg, et, h⟩ => ?_⟩
    · subst eg et
      obtain ⟨x, hx, rfl⟩ := get_izs hi
      have hlt : i < xs.length := (List.getElem?_eq_some_iff.mp hx).1
      rw [drop_at hx] at h
      refine ⟨vs, _, tg x s, hs fr' le i x s _ _ hlt (fun s' Γ' Θ' hn gl e => ?_) (fun s' Γ' Θ' hn gl e => ?_) h⟩
      · exact Kn.cle (kn_mid ⟨G s', gl, s', rfl, rfl, hn⟩) e
      · exact Kn.cle (((hd s' hn).fine le).le gl) e
    · subst eg et
      rw [List.length_map, List.drop_length] at h
      rw [List.length_map]
      exact (hd s h).cle (hte s)) J F1 H1 s1 (ok1.cle e2) jok
theorem kn_cutK {t u : TS} {D : Ends} {S : Type} (G : S → Gam) (T : S → List Cel) {f : (S → Prop) → Prop} {k : S → Prop} (h : joinD f k)
    (hb : ∀ M, (∀ s' Γ' Θ', k s' → GLe Γ' (G s') → CLe Θ' (T s') → Kn fr Γ' Θ' M) → f k → Kn fr Γ Θ (t { D with nx := M })) (hr : ∀ s, k s → Kn fr (G s) (T s) (u D)) : Kn fr Γ Θ (C8.tCut t u D) :=
  kn_cut (fun Γ Θ => ∃ s, Γ = G s ∧ Θ = T s ∧ k s) (hb _ (fun s' Γ' Θ' hn gl e => Kn.cle (kn_mid ⟨G s', gl, s', rfl, rfl, hn⟩) e) h) fun Γ Θ ⟨s, e1, e2, hk⟩ => by
    subst e1 e2
    exact hr s hk
theorem we_lcWK {α β : Type} {r : Rep α} {s : Rep β} {wi : TI} {g : TG} {tt : TT} {te : TE} {vs : List Nat}
    (w : Wi fr Γ Θ wi fun its Θ1 => ∃ (xs : List α) (f : α → (Option β → Prop) → Prop) (k : List β → Prop) (Γ2 : α → Gam) (T : Nat → List Cel) (Te : List Cel), its = xs.map (iz r) ∧ CLe Θ1 (T 0) ∧ xs.length ≤ big ∧ (∀ x, TgR g vs (iz r x) (wipeG Γ vs) (Γ2 x)) ∧ compD xs [] f k ∧
      (∀ i x c kx, i < xs.length → f x kx → Wt fr (Γ2 x) (c :: T i) tt fun b Θ1 => (b = true → We fr (Γ2 x) Θ1 te fun q Θ' => CLe Θ' (c :: T (i + 1)) ∧ ∃ y, q = iz s y ∧ kx (some y)) ∧ (b = false → CLe Θ1 (c :: T (i + 1)) ∧ kx none)) ∧ CLe (T xs.length) Te ∧
      (∀ ys, k ys → ys.length ≤ big → K (iz (yL s) ys) Te)) : We fr Γ Θ (tLc wi g tt te vs) K := fun σ F H ok env Q q => by
  refine w σ F H ok env _ fun its Θ1 ⟨xs, f, k, Γ2, T, Te, e1, e2, hl, tg, hc, hs, hte, hk⟩ J F1 H1 s1 ok1 jok => ?_
  subst e1
  have ok1 := ok1.cle e2
  intro D nD
  refine ⟨fun i m H' => m = xs.length - i ∧ i ≤ xs.length ∧ ∃ F2 ys, Same F1 F2 ∧ OkF fr (cL D s ys :: T i) F2 H' ∧ ys.length ≤ i ∧ compD (xs.drop i) ys f k, ⟨xs.length, by simp, Nat.zero_le _, F1, [], Same.refl _, ok1.mkOwn (c := cL D s []) nD rfl ⟨[], rfl, .nil⟩, Nat.le_refl _, hc⟩, ?_⟩
  rintro i m H' ⟨rfl, hi, F2, ys, s2, ok2, yl, py⟩
  obtain ⟨j1, j2⟩ := jok F2 H' s2 ok2.fh
  by_cases hlt : i < xs.length
  · have hx : xs[i]? = some xs[i] := List.getElem?_eq_getElem hlt
    generalize xs[i] = x at hx
    obtain ⟨jg, jy⟩ := j1 i (iz r x) (by rw [List.getElem?_map, hx]; rfl)
    refine .inr ⟨jg, fun H3 => ∃ F3 ys, Same F1 F3 ∧ OkF fr (cL D s ys :: T (i + 1)) F3 H3 ∧ ys.length ≤ i + 1 ∧ compD (xs.drop (i + 1)) ys f k, fun H3 p => ⟨xs.length - (i + 1), by omega, rfl, hlt, p⟩, fun v H3 y => ?_⟩
    obtain ⟨F3, e1, e2, e3, e4, e5⟩ := jy v H3 y
    have ok3 := ok2.grow e2 e1 e3 e4
    have s3 := s2.trans e1
    have hd : xs.drop i = x :: xs.drop (i + 1) := by
      obtain ⟨hl, e⟩ := List.getElem?_eq_some_iff.mp hx
      rw [List.drop_eq_getElem_cons hl, e]
    rw [hd] at py
    refine tg x (L2.wipe σ vs) F3 H3 v ok3.fh ((env.mono (s1.trans s3)).wipe vs) e5 _ fun σ2 env2 hw => ⟨?_, ?_⟩
    · rw [hw, wipe_idem]
    · refine hs i x _ _ hlt py σ2 F3 H3 ok3 env2 _ fun b Θ2 ⟨k1, k2⟩ F4 H4 s4 ok4 => ?_
      cases b with
      | true =>
        rw [if_pos rfl]
        refine k1 rfl σ2 F4 H4 ok4 (env2.mono s4) _ fun p Θ3 ⟨e8, y, e9, hy⟩ u F5 H5 s5 ok5 hp => ?_
        subst e9
        have ok5 := ok5.cle e8
        obtain ⟨_, ⟨o, h2, acc, rfl, h4⟩, _⟩ := ok5.ce _ (List.mem_cons_self ..)
        have ok6 := ok5.mut (i := 0) (c := cL D s ys) (c' := cL D s (ys ++ [y])) (o := .lst (acc ++ [u])) rfl rfl rfl ⟨_, rfl, PySem.Paired.snoc h4 hp⟩
        refine ⟨acc, h2, ?_, F5, ys ++ [y], (s3.trans s4).trans s5, ok6, by rw [List.length_append]; show _ + 1 ≤ _; omega, hy⟩
        rw [Paired.len h4]
        exact big_lt (by omega)
      | false =>
        rw [if_neg Bool.false_ne_true]
        obtain ⟨e8, hn⟩ := k2 rfl
        have ok4 := ok4.cle e8
        have hn : compD (xs.drop (i + 1)) (ys ++ []) f k := hn
        rw [List.append_nil] at hn
        exact ⟨F4, ys, s3.trans s4, ok4, by omega, hn⟩
  · have e : i = xs.length := by omega
    subst e
    rw [List.drop_length] at py
    obtain ⟨_, ⟨o, h2, acc, rfl, h4⟩, _⟩ := ok2.ce _ (List.mem_cons_self ..)
    have ok3 := (ok2.frz (i := 0) (c := cL D s ys) rfl rfl h2).cle hte
    have sD : Same F2 (upd F2 D (.lst acc)) := same_upd (ok2.ce _ (List.mem_cons_self ..)).1
    have yb : ys.length ≤ big := by omega
    refine .inl ⟨by rw [List.length_map] at j2; exact j2, q _ _ (hk ys py yb) _ _ H' ((s1.trans s2).trans sD) ok3 ⟨⟨D, acc, rfl, upd_same, Paired.imp2 (fun _ _ h => s.mono sD h) h4⟩, yb⟩⟩
/-- without a test -/
theorem we_lcMK {α β : Type} {r : Rep α} {s : Rep β} {wi : TI} {g : TG} {te : TE} {vs : List Nat}
    (w : Wi fr Γ Θ wi fun its Θ1 => ∃ (xs : List α) (f : α → (β → Prop) → Prop) (k : List β → Prop) (Γ2 : α → Gam) (T : Nat → List Cel) (Te : List Cel), its = xs.map (iz r) ∧ CLe Θ1 (T 0) ∧ xs.length ≤ big ∧ (∀ x, TgR g vs (iz r x) (wipeG Γ vs) (Γ2 x)) ∧ mapD xs [] f k ∧
      (∀ i x c kx, i < xs.length → f x kx → We fr (Γ2 x) (c :: T i) te fun q Θ' => CLe Θ' (c :: T (i + 1)) ∧ ∃ y, q = iz s y ∧ kx y) ∧ CLe (T xs.length) Te ∧
      (∀ ys, k ys → ys.length ≤ big → K (iz (yL s) ys) Te)) : We fr Γ Θ (tLc wi g tYes te vs) K :=
  we_lcWK (r := r) (s := s) fun σ F H ok env R q => w σ F H ok env R fun its Θ1 ⟨xs, f, k, Γ2, T, Te, e1, e2, hl, tg, hm, he, hte, hk⟩ => q its Θ1 ⟨xs, fun x k => f x fun y => k (some y), k, Γ2, T, Te, e1, e2, hl, tg, by rw [← mapD_comp]; exact hm,
    fun i x c kx hi h => wt_yes ⟨fun _ => (he i x c _ hi h), (fun h => nomatch h)⟩, hte, hk⟩
end
section
variable {P : Program} {w : World} {K : PySem.W.Frag} {mg : Str → Option Value} {base : Heap} {x m qual : Str} {C : Addr} {st : Stmt} {N ps : List Str} {k : Nat} {α β : Type} {ef : HE → Er} {args : α → List Vp} {r : Rep β} {md : α → DM β} {cost : Nat}
theorem Src.okKN (F : Src K mg x st ps) (S : FnScope N ps (defScope st)) (len : ∀ x, (args x).length + 1 = ps.length)
    (hbody : ∀ (f : Addr) (cdv : Value) (A : Around) (outer : List Env) (s : Shared) (H : Hp) (E : XK) (b l : Addr) (n : Nat) (a : α) (Q : β → Prop), n + cost ≤ LIM → Room k (A.deeper (envOfC x (defScope st) s.heap.objs.size f cdv)) → md a Q noX →
      ∃ t, PSs (cxOf CX0 P w K mg base N x (defScope st) f cdv A outer s H E).nox (defBody st) t ∧ ∀ fr Qv, RetKN fr (n + cost) b l Qv r Q → Kn fr (envOf N (zAt b :: args a)) [cBagC n b l] (t { nx := fun _ H' => Qv .non H', rt := Qv })) : Def P w K mg base CX0 (k + 1) x ps (spC (preKN cost (preBW args r md))) :=
  F.okC S (fun qs Θ out err ⟨b, l, n, qs', o, h1, h2, _, ⟨a, Q, e, _⟩, _⟩ => ⟨by rw [h1, e]; exact len a, fun c hc => by rw [h2] at hc; rw [List.mem_singleton.mp hc]; rfl⟩) fun f cdv A outer s H E qs Θ out err hr ⟨b, l, n, qs', o, e1, e2, hn, ⟨a, Q, e3, h, e4⟩, e5, e6⟩ => by
    subst e1 e2 e3 e4 e5 e6
    obtain ⟨t, ht, hk⟩ := hbody f cdv A outer s H E b l n a Q hn hr h
    refine ⟨t, ht, fun fr Qv hret => hk fr Qv fun y hy Θ M hM hc v F' H' ok hv => ?_⟩
    obtain ⟨Θr, pm⟩ := perm_of_mem hc
    exact hret _ [cBagC (n + cost) b l] ⟨⟨y, hy, rfl⟩, rfl⟩ rfl (cBagC (n + cost) b l :: Θr) Θr (.refl _) v F' H' ((ok.perm pm).cle (.cons (.bag hM) (CLe.refl Θr))) hv
end
end L2
set_option Elab.async false
set_option linter.all false
set_option maxRecDepth 100000
set_option maxHeartbeats 4000000
namespace L2
open PySem PySem.Spec PyProof.Rows PySem.HErr
def keyT (k : List Int) : List Key := k.map Sum.inl
theorem keyT_inj {k l : List Int} (h : keyT k = keyT l) : k = l := by
  unfold keyT at h
  exact (List.map_inj_right (fun a b e => Sum.inl.inj e)).mp h
def KVT {α : Type} (r : Rep α) (F : Hp) (kvs : List (List Key × V)) (rows : List (List Int × α)) : Prop := Paired (fun (kv : List Key × V) (x : List Int × α) => kv.1 = keyT x.1 ∧ r.p F kv.2 x.2 ∧ x.1.length ≤ big) kvs rows
theorem KVT.mono {α : Type} {r : Rep α} {F F' : Hp} {kvs : List (List Key × V)} {rows : List (List Int × α)} (h : KVT r F kvs rows) (e : Same F F') : KVT r F' kvs rows := Paired.imp2 (fun _ _ ⟨h1, h2, h3⟩ => ⟨h1, r.mono e h2, h3⟩) h
def yDT {α : Type} (r : Rep α) : Rep (List (List Int × α)) := ⟨fun F v rows => (∃ a o kvs, v = .ref a ∧ F a = some (.frz o (.dT kvs)) ∧ KVT r F kvs rows) ∧ rows.length ≤ big, fun e ⟨⟨a, o, kvs, h1, h2, h3⟩, h4⟩ => ⟨⟨a, o, kvs, h1, e _ _ h2, h3.mono e⟩, h4⟩⟩
def getT {α : Type} (rows : List (List Int × α)) (n : List Int) : Option α := (rows.find? fun x => decide (x.1 = n)).map (·.2)
def putT {α : Type} (rows : List (List Int × α)) (n : List Int) (x : α) : List (List Int × α) := if n ∈ rows.map (·.1) then rows.map fun y => if y.1 = n then (y.1, x) else y else rows ++ [(n, x)]
section
variable {fr fr' : Fr} {Γ Γ' : Gam} {Θ Θ' : List Cel} {F F' H H' : Hp} {K : Vp → List Cel → Prop} {Qv : VK}
theorem KVT.val {α : Type} {r : Rep α} {kvs : List (List Key × V)} {rows : List (List Int × α)} (h : KVT r F kvs rows) (n : List Int) : (getT rows n = none → valV kvs (keyT n) = none) ∧ ∀ x, getT rows n = some x → ∃ v, valV kvs (keyT n) = some v ∧ r.p F v x := by
  unfold KVT at h
  induction h with
  | nil => exact ⟨fun _ => rfl, (fun x e => nomatch e)⟩
  | @cons kv x ks xs h t ih =>
    obtain ⟨h1, h2, _⟩ := h
    by_cases e : x.1 = n
    · have e1 : kv.1 = keyT n := by rw [h1, e]
      have e2 : getT (x :: xs) n = some x.2 := by unfold getT; rw [List.find?_cons, decide_eq_true e]; rfl
      rw [e2, valV_pos e1]
      exact ⟨(fun q => nomatch q), fun y hy => ⟨_, rfl, by cases hy; exact h2⟩⟩
    · have e1 : ¬ kv.1 = keyT n := fun q => by rw [h1] at q; exact e (keyT_inj q)
      have e2 : getT (x :: xs) n = getT xs n := by unfold getT; rw [List.find?_cons, decide_eq_false e]
      rw [e2, valV_neg e1]
      exact ih
theorem KVT.some {α : Type} {r : Rep α} {kvs : List (List Key × V)} {rows : List (List Int × α)} (h : KVT r F kvs rows) (n : List Int) : (valV kvs (keyT n)).isSome = (getT rows n).isSome := by
  obtain ⟨h1, h2⟩ := h.val n
  cases e : getT rows n with
  | none => rw [h1 e]; rfl
  | some x =>
    obtain ⟨v, h3, _⟩ := h2 x e
    rw [h3]; rfl
theorem KVT.put {α : Type} {r : Rep α} {kvs : List (List Key × V)} {rows : List (List Int × α)} {n : List Int} {x : α} {u : V} (h : KVT r F kvs rows) (hu : r.p F u x) (hl : n.length ≤ big) : KVT r F (putK kvs (keyT n) u) (putT rows n x) := by
  have hk : (kvs.any fun kv => decide (kv.1 = keyT n)) = decide (n ∈ rows.map (·.1)) := by
    unfold KVT at h
    induction h with
    | nil => rfl
    | cons a b ih =>
      rename_i kv y kvs rows
      rw [List.any_cons, ih, a.1, List.map_cons]
      by_cases e : y.1 = n
      · rw [decide_eq_true (by rw [e]), Bool.true_or, decide_eq_true (by rw [e]; exact List.mem_cons_self ..)]
      · rw [decide_eq_false (fun q => e (keyT_inj q)), Bool.false_or]
        by_cases e2 : n ∈ rows.map (·.1)
        · rw [decide_eq_true e2, decide_eq_true (List.mem_cons_of_mem _ e2)]
        · rw [decide_eq_false e2, decide_eq_false fun q => (List.mem_cons.mp q).elim (fun q => e q.symm) e2]
  unfold putK putT
  by_cases e : n ∈ rows.map (·.1)
  · rw [if_pos e, if_pos (by rw [hk]; exact decide_eq_true e)]
    clear hk e
    unfold KVT at h ⊢
    induction h with
    | nil => exact .nil
    | cons a b ih =>
      refine .cons ?_ ih
      rename_i kv y kvs rows
      dsimp only
      by_cases e : y.1 = n
      · rw [if_pos e, if_pos (by rw [a.1, e])]
        exact ⟨a.1, hu, a.2.2⟩
      · rw [if_neg e, if_neg (fun q => e (keyT_inj (a.1.symm.trans q)))]
        exact a
  · rw [if_neg e, if_neg (by rw [hk]; simpa using e)]
    exact PySem.Paired.snoc h ⟨rfl, hu, hl⟩
end
end L2
set_option Elab.async false
set_option linter.all false
set_option maxRecDepth 100000
set_option maxHeartbeats 4000000
namespace L2
open PySem PySem.Spec PyProof.Rows PySem.HErr
section
variable {fr fr' : Fr} {Γ Γ' : Gam} {Θ Θ' : List Cel} {F F' H H' : Hp} {K : Vp → List Cel → Prop} {Qv : VK}
theorem le_Oz {α : Type} {r : Rep α} {x : Option α} {z : α} (e : x = some z) : (iz (yO r) x).Le (iz r z) := fun F v h => by
  subst e
  exact h
end
end L2
set_option Elab.async false
set_option linter.all false
set_option maxRecDepth 100000
set_option maxHeartbeats 4000000
namespace L2
open PySem PySem.Spec PyProof.Rows PySem.HErr
section
variable {X : Cx} {K : PySem.W.Frag}
def rIndexT (K : PySem.W.Frag) : V → List V → Hp → VK → Prop := fun x xs H Q => ∃ p, ∃ ys : List Str, ∃ z j, x = .ref p ∧ xs = [.str z] ∧ SqT K H p (ys.map V.str) ∧ ys[j]? = some z ∧ (∀ m, m < j → ys[m]? ≠ some z) ∧ Q (.int (j : Nat)) H
theorem kmt_indexT (h : X.K = K := by rfl) : MtR X "tuple.index" (rIndexT K) := h ▸ mt_tup_index
end
section
variable {fr fr' : Fr} {Γ Γ' : Gam} {Θ Θ' : List Cel} {F F' H H' : Hp} {K : Vp → List Cel → Prop} {Qv : VK}
theorem Mts.le {r : V → List V → Hp → VK → Prop} {p p' : Vp} {ps : List Vp} (w : Mts fr Θ r p' ps K) (h : p.Le p') : Mts fr Θ r p ps K := fun F H v vs ok a b Q k => w F H v vs ok (h _ _ a) b Q k
theorem tyl_yL {α : Type} {r : Rep α} {xs : List α} {Kf : PySem.W.Frag} : ∀ F H v, OkF fr Θ F H → (iz (yL r) xs).p F v → tyV Kf "list" v H := fun F H v ok h => tyl_L F H v ok h.1
theorem my_indexT {Kf : PySem.W.Frag} {xs : List Str} {x : Str} (hx : x ∈ xs) (k : K (iz zI (xs.idxOf x : Nat)) Θ) : Mts fr Θ (rIndexT Kf) (iz (yT yS) xs) [iz yS x] K := fun F H v vs ok hv hps Q q => by
  obtain ⟨⟨a, us, rfl, h2, h3⟩, _⟩ := hv
  have h3 : PVs zS F us xs := Paired.imp2 (fun _ _ h => h.1) h3
  obtain ⟨rfl, _⟩ := pvs_S h3
  cases hps with
  | cons h1 hp => cases hp with
    | nil =>
      obtain ⟨⟨rfl, ha⟩, _⟩ := h1
      have hl : xs.idxOf x < xs.length := List.idxOf_lt_length_iff.mpr hx
      refine ⟨a, xs, x, xs.idxOf x, rfl, rfl, h2.sq ok.fh, by rw [List.getElem?_eq_getElem hl, List.getElem_idxOf], fun m hm e => ?_, q.go k ok rfl⟩
      have := List.not_of_lt_findIdx hm
      rw [List.getElem?_eq_getElem (by omega)] at e
      have e := Option.some.inj e
      rw [e] at this
      simp at this
end
end L2
set_option Elab.async false
set_option linter.all false
set_option maxRecDepth 100000
set_option maxHeartbeats 4000000
namespace L2
open PySem PySem.Spec PyProof.Rows PySem.HErr
class XBack {α : Type} (r : Rep α) [d : XDat r] : Prop where
  bk : ∀ {F : Hp} {v : V} {x : α}, xp F (d.enc x) v → (d.enc x).depth ≤ 60 → r.p F v x
instance : XBack yX := ⟨fun h hd => ⟨h, hd⟩⟩
instance : XBack zI := ⟨fun h _ => by simp only [XDat.enc, xp] at h; exact h⟩
instance : XBack yS := ⟨fun h _ => by simp only [XDat.enc, xp] at h; exact ⟨⟨h.1, h.2.1⟩, h.2.2⟩⟩
theorem xpAll_back {α : Type} {r : Rep α} [d : XDat r] [b : XBack r] {F : Hp} : ∀ {xs : List α} {vs : List V}, xpAll F (xs.map d.enc) vs → (∀ x ∈ xs, (d.enc x).depth ≤ 60) → PVs r F vs xs
  | [], vs, h, _ => by
    simp only [List.map_nil, xpAll] at h
    subst h
    exact .nil
  | x :: xs, vs, h, hd => by
    simp only [List.map_cons, xpAll] at h
    obtain ⟨v, r', rfl, h1, h2⟩ := h
    exact .cons (b.bk h1 (hd x (List.mem_cons_self ..))) (xpAll_back h2 fun y hy => hd y (List.mem_cons_of_mem _ hy))
instance {α : Type} {r : Rep α} [d : XDat r] [b : XBack r] : XBack (yL r) := ⟨fun {F v xs} h hd => by
  have hx : (iz yX (.list (xs.map d.enc))).p F v := ⟨h, hd⟩
  simp only [XDat.enc, xp] at h
  obtain ⟨a, vs, h1, h2, h3, h4⟩ := h
  refine ⟨⟨a, vs, h1, h2, xpAll_back h4 fun x hx => ?_⟩, by rw [List.length_map] at h3; exact h3⟩
  simp only [XDat.enc, PyData.depth] at hd
  exact depth_mem (n := 60) (by omega) (List.mem_map.mpr ⟨x, hx, rfl⟩)⟩
class XNar2 {α : Type} [TNar α] (r : Rep α) [XDat r] : Prop where
  nx : ∀ xs : List α, TNar.nar (xs.map (XDat.enc (r := r))) = true ∨ TNar.nar (xs.map (XDat.enc (r := r))) = TNar.nar xs
instance : XNar2 yS := ⟨fun xs => .inr (by show (!isSDs (xs.map PyData.str)) = xs.isEmpty; rw [isSDs_strs, Bool.not_not])⟩
instance : XNar2 yX := ⟨fun xs => .inr (by rw [show (XDat.enc (r := yX)) = id from rfl, List.map_id])⟩
/-- data that is no word -/
class XNoS {α : Type} (r : Rep α) [XDat r] : Prop where
  ns : ∀ x, isSD (XDat.enc (r := r) x) = false
instance : XNoS zI := ⟨fun _ => rfl⟩
instance {α : Type} {r : Rep α} [XDat r] : XNoS (yL r) := ⟨fun _ => rfl⟩
instance {α : Type} [TNar α] {r : Rep α} [XDat r] [XNar r] : XNoS (yT r) := ⟨fun _ => rfl⟩
instance {α : Type} {r : Rep α} [XDat r] : XNoS (z1 r) := ⟨fun _ => rfl⟩
instance {α β : Type} {r : Rep α} {s : Rep β} [XDat r] [XDat s] : XNoS (z2 r s) := ⟨fun _ => rfl⟩
instance {α β γ : Type} {r : Rep α} {s : Rep β} {t : Rep γ} [XDat r] [XDat s] [XDat t] : XNoS (z3 r s t) := ⟨fun _ => rfl⟩
instance {α : Type} [TNar α] {r : Rep α} [d : XDat r] [k : XNoS r] : XNar2 r := ⟨fun xs => .inl (by
  show (!isSDs (xs.map d.enc)) = true
  cases xs with
  | nil => rfl
  | cons y ys => exact congrArg (fun b => !b) (isSDs_no (ds := (y :: ys).map d.enc) (List.mem_map.mpr ⟨y, List.mem_cons_self .., rfl⟩) (k.ns y)))⟩
theorem XNar2.tup {α : Type} [TNar α] {r : Rep α} [XDat r] [k : XNar2 r] {F : Hp} {a : Addr} {vs : List V} {xs : List α} (h : TupB (TNar.nar (xs.map (XDat.enc (r := r)))) F a vs) : TupB (TNar.nar xs) F a vs := (k.nx xs).elim (fun e => .inl (h.nar e)) fun e => by rw [← e]; exact h
instance {α : Type} [TNar α] {r : Rep α} [d : XDat r] [XNar r] [XNar2 r] [b : XBack r] : XBack (yT r) := ⟨fun {F v xs} h hd => by
  simp only [XDat.enc, xp] at h
  obtain ⟨a, vs, h1, h2, h3, h4⟩ := h
  refine ⟨⟨a, vs, h1, XNar2.tup h2, xpAll_back h4 fun x hx => ?_⟩, by rw [List.length_map] at h3; exact h3⟩
  simp only [XDat.enc, PyData.depth] at hd
  exact depth_mem (n := 60) (by omega) (List.mem_map.mpr ⟨x, hx, rfl⟩)⟩
def SqF (F : Hp) (a : Addr) (vs : List V) : Prop := F a = some (.lst vs) ∨ F a = some (.tup vs) ∨ ∃ o, F a = some (.frz o (.tup vs))
theorem SqF.mono {F F' : Hp} {a : Addr} {vs : List V} (e : Same F F') (h : SqF F a vs) : SqF F' a vs := h.elim (fun h => .inl (e _ _ h)) fun h => .inr (h.elim (fun h => .inl (e _ _ h)) fun ⟨o, h⟩ => .inr ⟨o, e _ _ h⟩)
theorem SqF.rd {F : Hp} {a : Addr} {vs : List V} (h : SqF F a vs) : Rd F a (.lst vs) ∨ Rd F a (.tup vs) := h.elim (fun h => .inl (.inl h)) fun h => .inr (h.elim .inl .inr)
def ySq {α : Type} (r : Rep α) : Rep (List α) := ⟨fun F v xs => (∃ a vs, v = .ref a ∧ SqF F a vs ∧ PVs r F vs xs) ∧ xs.length ≤ big, fun e ⟨⟨a, vs, h1, h2, h3⟩, h4⟩ => ⟨⟨a, vs, h1, h2.mono e, Paired.imp2 (fun _ _ h => r.mono e h) h3⟩, h4⟩⟩
section
variable {fr fr' : Fr} {Γ Γ' : Gam} {Θ Θ' : List Cel} {F F' H H' : Hp} {K : Vp → List Cel → Prop} {Qv : VK}
theorem SqF.up {a : Addr} {vs : List V} (fh : Same F H) (h : SqF F a vs) : Rd H a (.lst vs) ∨ Rd H a (.tup vs) := (h.mono fh).rd
end
instance {α : Type} {r : Rep α} : NotNon (yDT r) := ⟨fun F v x ⟨⟨a, o, kvs, h, _⟩, _⟩ => by rw [h]; exact fun q => by cases q⟩
instance {α : Type} {r : Rep α} : NotNon (ySq r) := ⟨fun F v x ⟨⟨a, vs, h, _⟩, _⟩ => by rw [h]; exact fun q => by cases q⟩
instance {α β γ δ ε : Type} {r : Rep α} {s : Rep β} {t : Rep γ} {u : Rep δ} {o : Rep ε} [d : XDat r] [e : XDat s] [f : XDat t] [g : XDat u] [l : XDat o] : XDat (z5 r s t u o) := ⟨fun x => .tuple [d.enc x.1, e.enc x.2.1, f.enc x.2.2.1, g.enc x.2.2.2.1, l.enc x.2.2.2.2], max d.dep (max e.dep (max f.dep (max g.dep l.dep))) + 1, fun ⟨a, v1, v2, v3, v4, v5, h1, h2, h3, h4, h5, h6, h7⟩ => by
  refine ⟨?_, ?_⟩
  · simp only [xp]
    exact ⟨a, _, h1, .inl h2, by show 5 ≤ 100000; decide, by simp only [xpAll]; exact ⟨_, _, rfl, (d.xd h3).1, _, _, rfl, (e.xd h4).1, _, _, rfl, (f.xd h5).1, _, _, rfl, (g.xd h6).1, _, _, rfl, (l.xd h7).1, rfl⟩⟩
  · have := (d.xd h3).2
    have := (e.xd h4).2
    have := (f.xd h5).2
    have := (g.xd h6).2
    have := (l.xd h7).2
    simp only [PyData.depth, PyData.depthAll]
    omega⟩
instance {α β γ δ ε : Type} {r : Rep α} {s : Rep β} {t : Rep γ} {u : Rep δ} {o : Rep ε} [XDat r] [XDat s] [XDat t] [XDat u] [XDat o] : PDat (z5 r s t u o) := ⟨fun _ => rfl⟩
instance {α β γ δ : Type} {r : Rep α} {s : Rep β} {t : Rep γ} {u : Rep δ} [d : Dat r] [e : Dat s] [f : Dat t] [g : Dat u] : Dat (z4 r s t u) := ⟨fun x => .tuple [d.enc x.1, e.enc x.2.1, f.enc x.2.2.1, g.enc x.2.2.2], d.dep + e.dep + f.dep + g.dep + 1, fun ⟨a, v1, v2, v3, v4, h1, h2, h3, h4, h5, h6⟩ => by subst h1; exact .tup (SqT.of h2) (.cons (d.dp h3) (.cons (e.dp h4) (.cons (f.dp h5) (.cons (g.dp h6) .nil)))),
  fun ⟨a, v1, v2, v3, v4, h1, h2, h3, h4, h5, h6⟩ => by show (nb _ && (nb _ && (nb _ && (nb _ && true)))) = true; rw [d.ok h3, e.ok h4, f.ok h5, g.ok h6]; rfl, fun x => by
    have h1 := d.dl x.1
    have h2 := e.dl x.2.1
    have h3 := f.dl x.2.2.1
    have h4 := g.dl x.2.2.2
    simp only [PyData.depth, PyData.depthAll]
    omega, fun {x y} h => by
    have h := PyData.tuple.inj h
    rw [List.cons.injEq, List.cons.injEq, List.cons.injEq, List.cons.injEq] at h
    exact Prod.ext (d.inj h.1) (Prod.ext (e.inj h.2.1) (Prod.ext (f.inj h.2.2.1) (g.inj h.2.2.2.1)))⟩
end L2
set_option Elab.async false
set_option linter.all false
set_option maxRecDepth 100000
set_option maxHeartbeats 4000000
namespace L2
open PySem PySem.Spec PyProof.Rows PySem.HErr
section
variable {fr fr' : Fr} {Γ Γ' : Gam} {Θ Θ' Θr : List Cel} {F F' H H' : Hp} {K : Vp → List Cel → Prop} {Qv : VK}
theorem perm_at {j : Nat} {c : Cel} (hj : Θ[j]? = some c) : Θ.Perm (c :: Θ.eraseIdx j) := by
  induction Θ generalizing j with
  | nil => cases hj
  | cons d Θ ih =>
    cases j with
    | zero => cases hj; exact .refl _
    | succ j => exact ((ih hj).cons d).trans (.swap c d _)
def preL {α β γ : Type} (ef : HE → Er) (args : List Addr → α → List Vp) (cin : List Addr → α → List Cel) (r : Rep β) (cout : List Addr → α → γ → List Cel) (m : α → DM (β × γ)) : PreC := fun ps Θ out err =>
  ∃ as x Q X, ps = args as x ∧ Θ = cin as x ∧ m x Q X ∧ (out = fun p Θ' => ∃ y g, Q (y, g) ∧ p = iz r y ∧ Θ' = cout as x g) ∧ (err = fun e Θ' => ∃ z g, X z ∧ e = ef z ∧ Θ' = cout as x g)
/-- what a def with lent cells returns -/
def RetL {β γ : Type} (fr : Fr) (Qv : VK) (r : Rep β) (cout : γ → List Cel) (Q : β × γ → Prop) : Prop := ∀ y g, Q (y, g) → ∀ Θ'' Θx, Θ''.Perm (cout g ++ Θx) → Rt fr Θ'' Qv (iz r y)
theorem RetL.fine {β γ : Type} {r : Rep β} {cout : γ → List Cel} {Q : β × γ → Prop} (h : RetL fr Qv r cout Q) (l : FrLe fr fr') : RetL fr' Qv r cout Q := fun y g hq Θ'' Θx pm => (h y g hq Θ'' Θx pm).fine l
/-- an error may leave: the cells hold something -/
def RseL {γ : Type} (fr : Fr) (E : XK) (ef : HE → Er) (cout : γ → List Cel) (X : HE → Prop) : Prop := ∀ z, X z → ∀ g Θ'' Θx, Θ''.Perm (cout g ++ Θx) → ∀ Γ, Kr fr Γ Θ'' (fun cls d _ H => E cls d H) (ef z)
theorem RseL.fine {γ : Type} {E : XK} {ef : HE → Er} {cout : γ → List Cel} {X : HE → Prop} (h : RseL fr E ef cout X) (l : FrLe fr fr') : RseL fr' E ef cout X := fun z hz g Θ'' Θx pm Γ σ F H ok env d us hd hf => h z hz g Θ'' Θx pm Γ σ F H (ok.le l) env d us hd hf
/-- a frozen instance of the class at C, its fields as g tells -/
def zIn {α : Type} (C : Addr) (g : α → List (Str × Vp)) : Rep α := ⟨fun F v x => ∃ a dx us, v = .ref a ∧ F a = some (.ins C dx us) ∧ FsOk F (g x) us, fun e ⟨a, dx, us, h1, h2, h3⟩ => ⟨a, dx, us, h1, e _ _ h2, h3.mono e⟩⟩
instance {α : Type} {C : Addr} {g : α → List (Str × Vp)} : NotNon (zIn C g) := ⟨fun F v x ⟨a, dx, us, h, _⟩ => by rw [h]; exact fun q => by cases q⟩
/-- one's own list in a field is frozen -/
theorem FsOk.at {F : Hp} {fl : List (Str × Vp)} {us : List (Str × V)} (h : FsOk F fl us) {k : Nat} {f : Str} {p q : Vp} (hk : fl[k]? = some (f, p)) (hq : ∀ v, p.p F v → q.p F v) : FsOk F (fl.set k (f, q)) us := by
  induction h generalizing k with
  | nil => cases hk
  | cons a b ih =>
    cases k with
    | zero =>
      cases hk
      exact .cons ⟨a.1, hq _ a.2⟩ b
    | succ k => exact .cons a (ih hk)
/-- what __init__ is to end with -/
def InitW {α : Type} (fr : Fr) (x C : Addr) (g : α → List (Str × Vp)) (Qn : L2.St → Hp → Prop) (Q : α → Prop) : Prop := ∀ y, Q y → ∀ (Γ : Gam) (Θ : List Cel) (i : Nat) (dx : Addr), Θ[i]? = some (cI x C dx (g y)) → Kn fr Γ Θ Qn
end
section
variable {P : Program} {w : World} {K : PySem.W.Frag} {mg : Str → Option Value} {base : Heap} {x m qual : Str} {C : Addr} {st : Stmt} {N ps : List Str} {k : Nat} {α β γ : Type} {ef : HE → Er} {args : List Addr → α → List Vp} {cin : List Addr → α → List Cel} {cout : List Addr → α → γ → List Cel} {r : Rep β} {md : α → DM (β × γ)}
theorem lent_len (len : ∀ as x, (args as x).length = ps.length) (own : ∀ as x, ∀ c ∈ cin as x, c.own = true) : ∀ qs Θ out err, preL ef args cin r cout md qs Θ out err → qs.length = ps.length ∧ ∀ c ∈ Θ, c.own = true := fun qs Θ out err ⟨as, a, Q, X, e1, e2, _⟩ => by
  subst e1 e2
  exact ⟨len as a, own as a⟩
theorem Src.okL (F : Src K mg x st ps) (S : FnScope N ps (defScope st)) (len : ∀ as x, (args as x).length = ps.length) (own : ∀ as x, ∀ c ∈ cin as x, c.own = true) (tg : ∀ as x g, (cout as x g).map tagC = (cin as x).map tagC)
    (hbody : ∀ (f : Addr) (cdv : Value) (A : Around) (outer : List Env) (s : Shared) (H : Hp) (E : XK) (as : List Addr) (a : α) (Q : β × γ → Prop) (X : HE → Prop), Room k (A.deeper (envOfC x (defScope st) s.heap.objs.size f cdv)) → md a Q X →
      ∃ t, PSs (cxOf CX0 P w K mg base N x (defScope st) f cdv A outer s H E).nox (defBody st) t ∧ ∀ fr Qv, RetL fr Qv r (cout as a) Q → Kn fr (envOf N (args as a)) (cin as a) (t { nx := fun _ H' => Qv .non H', rt := Qv })) : Def P w K mg base CX0 (k + 1) x ps (spC (preL ef args cin r cout md)) :=
  F.okC S (lent_len len own) fun f cdv A outer s H E qs Θ out err hr ⟨as, a, Q, X, e1, e2, h, e3, e4⟩ => by
    subst e1 e2 e3 e4
    obtain ⟨t, ht, hk⟩ := hbody f cdv A outer s H E as a Q X hr h
    exact ⟨t, ht, fun fr Qv hret => hk fr Qv fun y g hq Θ'' Θx pm => hret _ _ ⟨y, g, hq, rfl, rfl⟩ (tg as a g) Θ'' Θx pm⟩
theorem SrcM.okL (F : SrcM K C m qual st ps) (S : FnScope N ps (defScope st)) (len : ∀ as x, (args as x).length = ps.length) (own : ∀ as x, ∀ c ∈ cin as x, c.own = true) (tg : ∀ as x g, (cout as x g).map tagC = (cin as x).map tagC)
    (hbody : ∀ (f : Addr) (cdv : Value) (A : Around) (outer : List Env) (s : Shared) (H : Hp) (E : XK) (as : List Addr) (a : α) (Q : β × γ → Prop) (X : HE → Prop), Room k (A.deeper (envOfC qual (defScope st) s.heap.objs.size f cdv)) → md a Q X →
      ∃ t, PSs (cxOf CX0 P w K mg base N qual (defScope st) f cdv A outer s H E).nox (defBody st) t ∧ ∀ fr Qv, RetL fr Qv r (cout as a) Q → Kn fr (envOf N (args as a)) (cin as a) (t { nx := fun _ H' => Qv .non H', rt := Qv })) : DefM P w K mg base CX0 (k + 1) C m ps (spC (preL ef args cin r cout md)) :=
  F.okC S (lent_len len own) fun f cdv A outer s H E qs Θ out err hr ⟨as, a, Q, X, e1, e2, h, e3, e4⟩ => by
    subst e1 e2 e3 e4
    obtain ⟨t, ht, hk⟩ := hbody f cdv A outer s H E as a Q X hr h
    exact ⟨t, ht, fun fr Qv hret => hk fr Qv fun y g hq Θ'' Θx pm => hret _ _ ⟨y, g, hq, rfl, rfl⟩ (tg as a g) Θ'' Θx pm⟩
theorem SrcI.okW {α β : Type} {args : α → List Vp} {md : α → DM β} {g : β → List (Str × Vp)} (F : SrcI K C qual st ps) (S : FnScope N ps (defScope st)) (len : ∀ x, (args x).length + 1 = ps.length)
    (hbody : ∀ (f : Addr) (cdv : Value) (A : Around) (outer : List Env) (s : Shared) (H : Hp) (E : XK) (a : α) (Q : β → Prop) (X : HE → Prop), Room k (A.deeper (envOfC qual (defScope st) s.heap.objs.size f cdv)) → md a Q X →
      ∃ t, PSs (cxOf (L2.CX P w) P w K mg base N qual (defScope st) f cdv A outer s H E) (defBody st) t ∧ ∀ fr x dx (Qn : L2.St → Hp → Prop) (rt : VK), InitW fr x C g Qn Q → RseW fr E ef X → Kn fr (envOf N (zAt x :: args a)) [cI x C dx []] (t { nx := Qn, rt := rt })) : DefI P w K mg base (L2.CX P w) (k + 1) C ps (spI C (preW ef args (zIn C g) md)) :=
  F.okAX S (fun qs out err ⟨a, Q, X, e, _⟩ => by rw [e]; exact len a) fun f cdv A outer s H E qs out err hr ⟨a, Q, X, e1, h, e2, e3⟩ => by
    subst e1 e2 e3
    obtain ⟨t, ht, hk⟩ := hbody f cdv A outer s H E a Q X hr h
    refine ⟨t, ht, fun fr x dx Qn rt hq hrt hrse => hk fr x dx Qn rt (fun y hy Γ Θ i dx' hi σ F' H' ok env => ?_) fun z hz Γ Θ => kr_E hrse ⟨z, hz, rfl⟩⟩
    obtain ⟨h1, ⟨o, h2, us, rfl, h4⟩, h5⟩ := ok.ce _ (List.mem_of_getElem? hi)
    have ok2 := ok.frz hi rfl h2
    have sF : Same F' (upd F' x (.ins C dx' us)) := same_upd h1
    exact hq _ ⟨y, hy, rfl⟩ σ _ H' ⟨_, ok2⟩ ⟨x, dx', us, rfl, upd_same, h4.mono sF⟩
end
end L2
set_option Elab.async false
set_option linter.all false
set_option maxRecDepth 100000
set_option maxHeartbeats 4000000
namespace L2
open PySem PySem.Spec PyProof.Rows PySem.HErr
open PySem.W (findIn isFn selfFirst subIn)
/-- what a comparison of the class at C asks -/
structure CmpC (K : PySem.W.Frag) (C : Addr) : Prop where
  si : subIn K (.type "int") (.ref C) = some false
  is : subIn K (.ref C) (.type "int") = some false
section
variable {P : Program} {w : World} {A : Around} {E : Value → Shared → Prop} {s : Shared} {K : PySem.W.Frag} {x y C dx f : Addr} {ox : Obj} {od : Option Obj} {i : Int} {t : Tok} {b : Value}
/-- the right side: an int, or of the same class -/
def Rgt (P : Program) (w : World) (s : Shared) (C : Addr) (b : Value) : Prop := (∃ i t, b = .int i t) ∨ PySem.W.Looks (model P w) s.heap (typeOf b) (.ref C)
theorem bound_blt {name : Str} {id : String} {args : List Value} {Q : Option Value → Shared → Prop} (X : K.In s.heap) (I : PySem.W.InstAt s.heap x ox C od) (hs : findIn K (.ref C) name = some (some (.builtin id)))
    (hb : ∀ self, bindSpecial (.builtin id) self = pure (.builtin id, [self])) (h : wpAny (model P w) A (call (.builtin id) (.ref x :: args)) (fun v => Q (some v)) E s) : wpAny (model P w) A (callSpecialIfBound? (.ref x) name args) Q E s := by
  have fin : wpAny (model P w) A (call (.builtin id) ([.ref x] ++ args) >>= fun v => pure (some v)) Q E s := wpAny_bind (wpAny_mono h (fun v s' q => wpAny_pure q) fun _ _ q => q)
  simp only [callSpecialIfBound?, bindSpecialIfBound?, specialOf]
  refine wpAny_holding (wpAny_bind (wpAny_bind ?_))
  refine wpAny_bind (I.type.here ?_)
  refine (PySem.W.looks_findIn X hs).here ?_
  refine wpAny_bind (wpAny_askSetting (wpAny_ite ?_))
  split
  · rw [hb]; exact wpAny_bind (wpAny_pure (wpAny_pure fin))
  · rw [hb]; exact wpAny_tryCatch (wpAny_bind (wpAny_pure (wpAny_pure fin)))
/-- != by object's own, which asks == -/
theorem try_ne {Q : Option Value → Shared → Prop} (hu : A.in1.units < cLine) (X : K.In s.heap) (I : PySem.W.InstAt s.heap x ox C od) (hn : findIn K (.ref C) "__ne__" = some (some (.builtin "object.__ne__"))) (hm : PySem.W.mroIn K C (.type "object") = some true)
    (hs : findIn K (.ref C) "__eq__" = some (some (.ref f))) (hf : isFn K (.ref f) = true)
    (h : wpAny (model P w) A.in1 (call (.ref f) [.ref x, b]) (fun v s' => ∃ c, v = .bool c ∧ Q (some (.bool (!c))) s') E s) : wpAny (model P w) A (tryCompare (.ref x) "__ne__" b) Q E s := by
  unfold tryCompare
  refine wpAny_bind (bound_blt X I hn PySem.F.slot_object_ne.bind ?_)
  refine wpAny_call (codeAny_call_builtin PySem.F.slot_object_ne.plain PySem.F.entry_object_ne (PySem.W.check_slot (i := "object.__ne__") (owner := "object") (n := "__ne__") (by decide +kernel) (by decide +kernel) (I.type.andThen (PySem.W.looks_mroIn X hm)) (PySem.F.args_object_ne_2 _ _) ?_))
  unfold Builtin.«object.__ne__»
  refine wpAny_bind (m := slotArgs "__ne__" 1 _) (wpAny_pure ?_)
  refine wpAny_bind (m := cRoomFor _ _) (wpAny_cRoomFor hu ?_)
  refine wpAny_bind (m := callSpecialIfBound? (.ref x) (Str.ofString "__eq__") _) (PySem.W.ifBound_K X I hs hf (wpAny_mono h (fun v s' ⟨c, e, q⟩ => ?_) fun _ _ e => e))
  subst e
  refine wpAny_bind (m := truthy (.bool c)) (wpAny_pure ?_)
  exact wpAny_pure (wpAny_pure q)
theorem cmp_left {op : CmpOp} {Q : Value → Shared → Prop} (hop : ∀ a b, compareOp op a b = richCompare op a b) (hu : A.units < cLine) (X : K.In s.heap) (I : PySem.W.InstAt s.heap x ox C od) (O : CmpC K C) (hb : Rgt P w s C b)
    (h : wpAny (model P w) A (tryCompare (.ref x) (cmpInfo op).2.1 b) (fun r s' => ∃ v, r = some v ∧ Q v s') E s) : wpAny (model P w) A (compareOp op (.ref x) b) Q E s := by
  rw [hop]
  unfold richCompare
  simp only [oneThing_ref]
  rcases hi : cmpInfo op with ⟨sym, nf, nr⟩
  rw [hi] at h
  refine wpAny_holding ?_
  refine wpAny_bind (wpAny_cRoomFor hu ?_)
  dsimp only at h ⊢
  refine wpAny_bind (I.type.here ?_)
  rcases hb with ⟨i, t, rfl⟩ | hb
  · refine wpAny_bind (wpAny_pure ?_)
    rw [show (Value.ref C != Value.type "int") = true from by simp]
    simp only [if_true]
    refine wpAny_bind ((PySem.W.looks_subIn X O.si).here ?_)
    simp only [Bool.false_eq_true, if_false]
    exact wpAny_bind (wpAny_mono h (fun r s' ⟨v, e, q⟩ => by subst e; exact wpAny_pure q) fun _ _ e => e)
  · refine wpAny_bind (hb.here ?_)
    rw [show (Value.ref C != Value.ref C) = false from by simp]
    simp only [Bool.false_eq_true, if_false]
    refine wpAny_bind (wpAny_pure ?_)
    simp only [Bool.false_eq_true, if_false]
    exact wpAny_bind (wpAny_mono h (fun r s' ⟨v, e, q⟩ => by subst e; exact wpAny_pure q) fun _ _ e => e)
end
/-- an int, or an instance of the class at C -/
def RgtV (C : Addr) (y : V) (H : Hp) : Prop := (∃ i, y = .int i) ∨ ∃ b dx fs, y = .ref b ∧ H b = some (.ins C dx fs)
def tNe2 (C : Addr) (sp : Sp) (E : St → XK) (ta tb : TE) : TE := fun σ H Q => ta σ H fun x H1 => tb σ H1 fun y H2 => ∃ a dx fs, x = .ref a ∧ H2 a = some (.ins C dx fs) ∧ RgtV C y H2 ∧ sp [.ref a, y] H2 (fun v H3 => ∃ c, v = .bl c ∧ Q (.bl (!c)) H3) (E σ)
section
variable {X : Cx} {CX : CXT} {k : Nat} {C : Addr} {ps : List Str} {sp : Sp} {E : St → XK} {R : V → Prop} {l r : Expr} {ta tb : TE} {pos : Pos} {m : Str}
theorem rgt_of {pins : List (Addr × Obj)} {σ : St} {H : Hp} {s : Shared} {y : V} {u : Value} (I : Inv X pins σ H s) (ry : RelV y u) (h : RgtV C y H) : Rgt X.prog X.w s C u := by
  rcases h with ⟨i, rfl⟩ | ⟨b, dx, fs, rfl, hb⟩
  · obtain ⟨t, rfl⟩ := ry
    exact .inl ⟨i, t, rfl⟩
  · obtain rfl : u = Value.ref b := ry
    obtain ⟨mA, O, _⟩ := ins_get I.hok hb
    obtain ⟨od, J, _⟩ := O.look
    exact .inr J.type
/-- what != asks of a class that has == alone -/
structure NeC (K : PySem.W.Frag) (C : Addr) : Prop where
  ne : findIn K (.ref C) "__ne__" = some (some (.builtin "object.__ne__"))
  ob : PySem.W.mroIn K C (.type "object") = some true
theorem pc_ne2 (D : DefM X.prog X.w X.K X.mg X.base CX k C "__eq__" ps sp) (O : CmpC X.K C) (N : NeC X.K C) (hr : Room (k + 1) X.A) (hx : ∀ σ, PassesAt CX X σ (E σ)) (hl : PE X l ta) (hrr : PE X r tb) : PC X .NotEq l r (tNe2 C sp E ta tb) := by
  obtain ⟨f, fd, hlk, hm, hb, F⟩ := D.ex
  refine ⟨fun pins s σ H Q I h => ?_⟩
  refine thn (hl.run pins s σ H _ I h) fun iv s1 ⟨x, H1, I1, rx, q1⟩ => thn (hrr.run pins s1 σ H1 _ I1 q1) fun u s2 ⟨y, H2, I2, ry, a, dx, fs, ex, ea, hy, q2⟩ => ?_
  subst ex
  obtain rfl : iv = Value.ref a := rx
  obtain ⟨mA, O1, _⟩ := ins_get I2.hok ea
  obtain ⟨od, J, _⟩ := O1.look
  have run := run_fnS1 (us := [.ref a, u]) (vs := [.ref a, y]) F hr hb (hx σ) I2 (.cons rfl (.cons ry .nil)) q2
  refine cmp_left (fun _ _ => rfl) (Nat.lt_of_le_of_lt (Nat.le_add_right _ 64) hr.units) I2.kIn J O (rgt_of I2 ry hy) (try_ne (Nat.lt_of_le_of_lt (Nat.le_add_right _ 64) hr.in1.units) I2.kIn J N.ne N.ob hm.at_ hm.fn (wpAny_mono run (fun v s3 ⟨z, H3, I3, rz, c, e, q3⟩ => ?_) fun _ _ e => e))
  subst e
  cases rz
  exact ⟨c, rfl, _, rfl, .bl (!c), H3, I3, rfl, q3⟩
end
end L2
set_option Elab.async false
set_option linter.all false
set_option maxRecDepth 100000
set_option maxHeartbeats 4000000
namespace L2
open PySem PySem.Spec PyProof.Rows PySem.HErr
open PySem.W (findIn isFn)
section
variable {fr : Fr} {Γ Γ' : Gam} {Θ : List Cel} {F F' H H' : Hp} {K : Vp → List Cel → Prop} {Q : VK} {C : Addr} {sp : Sp} {E : L2.St → XK} {R : V → Prop} {ta tb : TE}
/-- what stands on the right side -/
def RgtP (fr : Fr) (Θ : List Cel) (C : Addr) (q : Vp) : Prop := ∀ F H v, OkF fr Θ F H → q.p F v → RgtV C v H
theorem rg_C {p : Vp} (h : InsC fr Θ p C) : RgtP fr Θ C p := fun F H v ok hv => .inr (h F H v ok hv)
theorem we_ne2 (w : We fr Γ Θ ta fun p Θ1 => We fr Γ Θ1 tb fun q Θ2 => InsC fr Θ2 p C ∧ RgtP fr Θ2 C q ∧ Sps fr Γ Θ2 sp E [p, q] fun r Θ3 => ∃ b, r = iz zB b ∧ K (iz zB (!b)) Θ3) : We fr Γ Θ (tNe2 C sp E ta tb) K := fun σ F H ok env Q k =>
  w σ F H ok env _ fun p Θ1 w1 x F1 H1 s1 ok1 hx => w1 σ F1 H1 ok1 (env.mono s1) _ fun q Θ2 ⟨ic, ir, w2⟩ y F2 H2 s2 ok2 hy => by
    have hx2 := p.mono s2 hx
    obtain ⟨a, dx, fs, rfl, h2⟩ := ic F2 H2 x ok2 hx2
    exact ⟨a, dx, fs, rfl, h2, ir F2 H2 y ok2 hy, w2 σ F2 H2 _ ok2 ((env.mono s1).mono s2) (.cons hx2 (.cons hy .nil)) _ fun r Θ3 ⟨b, er, kk⟩ v F3 H3 s3 ok3 hv => by
      subst er
      have hv : v = .bl b := hv
      exact ⟨b, hv, k _ Θ3 kk _ F3 H3 ((s1.trans s2).trans s3) ok3 rfl⟩⟩
end
theorem InitW.fine {α : Type} {fr fr' : Fr} {x C : Addr} {g : α → List (Str × Vp)} {Qn : L2.St → Hp → Prop} {Q : α → Prop} (h : InitW fr x C g Qn Q) (l : FrLe fr fr') : InitW fr' x C g Qn Q := fun y hy Γ Θ i dx hi σ F H ok env => h y hy Γ Θ i dx hi σ F H (ok.le l) env
end L2
set_option Elab.async false
set_option linter.all false
set_option maxRecDepth 100000
set_option maxHeartbeats 4000000
namespace L2
open PySem PySem.Spec PyProof.Rows PySem.HErr
abbrev TRw := Str × List Int × List Int
def IxOk (n : Nat) (ks : List Int) : Prop := ks.Nodup ∧ ∀ k ∈ ks, ∃ j : Nat, k = (j : Int) ∧ j < n
/-- the state behind a step -/
def mvF (s t g : List Int) : List Int := (List.range s.length).map fun (j : Nat) => s.getD j 0 - (if (j : Int) ∈ t then 1 else 0) + (if (j : Int) ∈ g then 1 else 0)
theorem mvF_len {s t g : List Int} : (mvF s t g).length = s.length := by unfold mvF; rw [List.length_map, List.length_range]
theorem mvF_get {s t g : List Int} {j : Nat} (h : j < s.length) : (mvF s t g).getD j 0 = s.getD j 0 - (if (j : Int) ∈ t then 1 else 0) + (if (j : Int) ∈ g then 1 else 0) := by
  unfold mvF
  rw [List.getD_eq_getElem?_getD, List.getElem?_map, List.getElem?_range h]
  rfl
def enB (s t : List Int) : Bool := t.all fun k => decide (s.getD k.toNat 0 > 0)
def movF (s t g : List Int) : Option (List Int) := if enB s t = true then some (mvF s t g) else none
def NonN (s : List Int) : Prop := ∀ n ∈ s, 0 ≤ n
theorem NonN.get {s : List Int} (h : NonN s) (j : Nat) : 0 ≤ s.getD j 0 := by
  rw [List.getD_eq_getElem?_getD]
  cases e : s[j]? with
  | none => exact Int.le_refl _
  | some x => exact h x (List.mem_of_getElem? e)
theorem nonN_of {s : List Int} (h : ∀ j < s.length, 0 ≤ s.getD j 0) : NonN s := fun n hn => by
  obtain ⟨j, hj⟩ := List.getElem?_of_mem hn
  have h1 := (List.getElem?_eq_some_iff.mp hj).1
  have := h j h1
  rw [List.getD_eq_getElem?_getD, hj] at this
  exact this
/-- only what is in the lists counts -/
theorem enB_congr {s t t' : List Int} (h : ∀ k, k ∈ t ↔ k ∈ t') : enB s t = enB s t' := by
  unfold enB
  rw [Bool.eq_iff_iff, List.all_eq_true, List.all_eq_true]
  exact ⟨fun q k hk => q k ((h k).mpr hk), fun q k hk => q k ((h k).mp hk)⟩
theorem mvF_congr {s t t' g g' : List Int} (h : ∀ k, k ∈ t ↔ k ∈ t') (h' : ∀ k, k ∈ g ↔ k ∈ g') : mvF s t g = mvF s t' g' := by
  unfold mvF
  congr 1
  funext j
  rw [show (if (j : Int) ∈ t then (1 : Int) else 0) = if (j : Int) ∈ t' then 1 else 0 from by simp only [h], show (if (j : Int) ∈ g then (1 : Int) else 0) = if (j : Int) ∈ g' then 1 else 0 from by simp only [h']]
theorem movF_congr {s t t' g g' : List Int} (h : ∀ k, k ∈ t ↔ k ∈ t') (h' : ∀ k, k ∈ g ↔ k ∈ g') : movF s t g = movF s t' g' := by
  unfold movF
  rw [enB_congr h, mvF_congr h h']
theorem movF_len {s t g z : List Int} (h : movF s t g = some z) : z.length = s.length := by
  unfold movF at h
  split at h
  · cases h; exact mvF_len
  · cases h
theorem movF_non {s t g z : List Int} (hs : NonN s) (ht : IxOk s.length t) (h : movF s t g = some z) : NonN z := by
  unfold movF at h
  split at h
  · rename_i he
    cases h
    refine nonN_of fun j hj => ?_
    rw [mvF_len] at hj
    rw [mvF_get hj]
    have h0 := hs.get j
    by_cases q : (j : Int) ∈ t
    · have := List.all_eq_true.mp he _ q
      have := of_decide_eq_true this
      rw [Int.toNat_natCast] at this
      rw [if_pos q]
      split <;> omega
    · rw [if_neg q]
      split <;> omega
  · cases h
/-- two tables of the same steps -/
def RowR (n : Nat) (a b : TRw) : Prop := a.1 = b.1 ∧ (∀ k, k ∈ a.2.1 ↔ k ∈ b.2.1) ∧ (∀ k, k ∈ a.2.2 ↔ k ∈ b.2.2) ∧ IxOk n a.2.1 ∧ IxOk n a.2.2 ∧ IxOk n b.2.1 ∧ IxOk n b.2.2
abbrev TabRel (n : Nat) (a b : List TRw) : Prop := Paired (RowR n) a b
def TabOk (n : Nat) (a : List TRw) : Prop := (∀ r ∈ a, IxOk n r.2.1 ∧ IxOk n r.2.2) ∧ (a.map (·.1)).Nodup
def rowOf (tab : List TRw) (z : Str) : Option TRw := tab.find? fun r => decide (r.1 = z)
theorem RowR.mov {n : Nat} {a b : TRw} (h : RowR n a b) {s : List Int} : movF s a.2.1 a.2.2 = movF s b.2.1 b.2.2 := movF_congr h.2.1 h.2.2.1
theorem TabRel.row {n : Nat} {a b : List TRw} (h : TabRel n a b) (z : Str) : (rowOf a z = none ∧ rowOf b z = none) ∨ ∃ r r', rowOf a z = some r ∧ rowOf b z = some r' ∧ RowR n r r' := by
  induction h with
  | nil => exact .inl ⟨rfl, rfl⟩
  | @cons r r' as bs hr _ ih =>
    unfold rowOf
    rw [List.find?_cons, List.find?_cons]
    by_cases e : r.1 = z
    · refine .inr ⟨r, r', ?_, ?_, hr⟩
      · rw [decide_eq_true e]
      · rw [decide_eq_true (hr.1.symm.trans e)]
    · rw [decide_eq_false e, decide_eq_false (fun q => e (hr.1.trans q))]
      exact ih
/-- the state behind a run -/
def runF (tab : List TRw) : List Int → List Str → Option (List Int)
  | s, [] => some s
  | s, z :: zs => match rowOf tab z with
    | none => none
    | some r => match movF s r.2.1 r.2.2 with
      | none => none
      | some s' => runF tab s' zs
theorem runF_app (tab : List TRw) : ∀ (zs ys : List Str) (s : List Int), runF tab s (zs ++ ys) = (runF tab s zs).bind fun s' => runF tab s' ys
  | [], ys, s => rfl
  | z :: zs, ys, s => by
    show runF tab s (z :: (zs ++ ys)) = _
    rw [runF, runF]
    cases rowOf tab z with
    | none => rfl
    | some r =>
      dsimp only
      cases movF s r.2.1 r.2.2 with
      | none => rfl
      | some s' => exact runF_app tab zs ys s'
theorem rowOf_mem {tab : List TRw} {z : Str} {r : TRw} (h : rowOf tab z = some r) : r ∈ tab ∧ r.1 = z := ⟨List.mem_of_find?_eq_some h, of_decide_eq_true (List.find?_some (p := fun r : TRw => decide (r.1 = z)) h)⟩
theorem rowOf_of {tab : List TRw} (hn : (tab.map (·.1)).Nodup) {r : TRw} (h : r ∈ tab) : rowOf tab r.1 = some r := by
  unfold rowOf
  induction tab with
  | nil => cases h
  | cons x tab ih =>
    rw [List.map_cons, List.nodup_cons] at hn
    rw [List.find?_cons]
    rcases List.mem_cons.mp h with rfl | h
    · rw [decide_eq_true rfl]
    · rw [decide_eq_false (fun e => hn.1 (List.mem_map.mpr ⟨r, h, e.symm⟩))]
      exact ih hn.2 h
theorem runF_keep {n : Nat} {tab : List TRw} (ht : TabOk n tab) : ∀ (zs : List Str) {s z : List Int}, s.length = n → NonN s → runF tab s zs = some z → z.length = n ∧ NonN z
  | [], s, z, hl, hn, h => by cases h; exact ⟨hl, hn⟩
  | y :: zs, s, z, hl, hn, h => by
    unfold runF at h
    cases e : rowOf tab y with
    | none => rw [e] at h; cases h
    | some r =>
      rw [e] at h
      dsimp only at h
      cases e2 : movF s r.2.1 r.2.2 with
      | none => rw [e2] at h; cases h
      | some s' =>
        rw [e2] at h
        exact runF_keep ht zs ((movF_len e2).trans hl) (movF_non hn (by rw [hl]; exact (ht.1 r (rowOf_mem e).1).1) e2) h
theorem TabRel.okL {n : Nat} {a b : List TRw} (h : TabRel n a b) : ∀ r ∈ a, IxOk n r.2.1 ∧ IxOk n r.2.2 := fun r hr => by
  obtain ⟨i, hi⟩ := List.getElem?_of_mem hr
  obtain ⟨r', _, q⟩ := Paired.get h hi
  exact ⟨q.2.2.2.1, q.2.2.2.2.1⟩
theorem TabRel.names {n : Nat} {a b : List TRw} (h : TabRel n a b) : a.map (·.1) = b.map (·.1) := by
  induction h with
  | nil => rfl
  | cons hr _ ih => rw [List.map_cons, List.map_cons, hr.1, ih]
end L2
set_option Elab.async false
set_option linter.all false
set_option maxRecDepth 100000
set_option maxHeartbeats 4000000
namespace L2
open PySem PySem.Spec PyProof.Rows PySem.HErr
open PySem.W (findIn isFn)
/-- the i-th of the lent places -/
def ad (as : List Addr) (i : Nat) : Addr := as.getD i 0
theorem permD {α : Type} (n : Nat) (Θ : List α) : Θ.Perm (Θ.drop n ++ Θ.take n) := by
  have := List.perm_append_comm (l₁ := Θ.take n) (l₂ := Θ.drop n)
  rwa [List.take_append_drop] at this
structure SrcIK (K : PySem.W.Frag) (C : Addr) (qual : Str) (st : Stmt) : Prop where
  ex : ∃ f fd, FunA K "__init__" qual st f fd ∧ Mk K C f
structure DefIK (P : Program) (w : World) (K : PySem.W.Frag) (mg : Str → Option Value) (base : Heap) (CX : CXT) (k : Nat) (C : Addr) (ps : List Str) (sp : Sp) : Prop where
  ex : ∃ f fd, LkF K f fd ∧ Mk K C f ∧ FnOk P w K mg base CX k f fd ps sp
section
variable {P : Program} {w : World} {K : PySem.W.Frag} {mg : Str → Option Value} {base : Heap} {CX : CXT} {qual : Str} {C : Addr} {st : Stmt} {N ps : List Str} {k : Nat} {sp : Sp} {pre : Pre} {ef : HE → Er}
theorem DefIK.mono {j : Nat} (D : DefIK P w K mg base CX j C ps sp) (h : j ≤ k) : DefIK P w K mg base CX k C ps sp := by
  obtain ⟨f, fd, hlk, h1, h3⟩ := D.ex
  exact ⟨f, fd, hlk, h1, h3.mono h⟩
theorem SrcIK.okX (F : SrcIK K C qual st) (S : FnScope N ps (defScope st)) (len : ∀ vs H Q E, sp vs H Q E → vs.length = ps.length)
    (hbody : ∀ (f : Addr) (cdv : Value) (A : Around) (outer : List Env) (s : Shared) (H : Hp) (vs : List V) (Q : VK) (E : XK), Room k (A.deeper (envOfC qual (defScope st) s.heap.objs.size f cdv)) → sp vs H Q E →
      ∃ t, PSs (cxOf (L2.CX P w) P w K mg base N qual (defScope st) f cdv A outer s H E) (defBody st) t ∧ t { nx := fun _ H' => Q .non H', rt := Q } (start N vs) H) : DefIK P w K mg base (L2.CX P w) (k + 1) C ps sp := by
  obtain ⟨f, fd, h1, h2⟩ := F.ex
  exact ⟨f, fd, h1.lk, h2, h1.okX S len (hbody f)⟩
theorem SrcIK.okAX (F : SrcIK K C qual st) (S : FnScope N ps (defScope st)) (len : ∀ qs out err, pre qs out err → qs.length + 1 = ps.length)
    (hbody : ∀ (f : Addr) (cdv : Value) (A : Around) (outer : List Env) (s : Shared) (H : Hp) (E : XK) (qs : List Vp) (out : Vp → Prop) (err : Er → Prop), Room k (A.deeper (envOfC qual (defScope st) s.heap.objs.size f cdv)) → pre qs out err →
      ∃ t, PSs (cxOf (L2.CX P w) P w K mg base N qual (defScope st) f cdv A outer s H E) (defBody st) t ∧ ∀ fr x dx (Q : L2.St → Hp → Prop) (rt : VK), (∀ p, out p → ∀ σ F H, (∃ Θ, OkF fr Θ F H) → p.p F (.ref x) → Q σ H) → (∀ p, out p → ∀ F H, (∃ Θ, OkF fr Θ F H) → p.p F (.ref x) → rt .non H) → Rse fr E err →
        Kn fr (envOf N (zAt x :: qs)) [cI x C dx []] (t { nx := Q, rt := rt })) : DefIK P w K mg base (L2.CX P w) (k + 1) C ps (spI C pre) := by
  refine F.okX S (fun vs H Q E h => ?_) (fun f cdv A outer s H vs Q E hr h => ?_)
  · obtain ⟨x, dx, vs', F, qs, out, err, rfl, _, _, _, h2, h3, _⟩ := h
    rw [List.length_cons, ← Paired.len h2]
    exact len _ _ _ h3
  · obtain ⟨x, dx, vs', F, qs, out, err, rfl, hx, fx, fh, h2, h3, h4, h5⟩ := h
    obtain ⟨t, ht, hk⟩ := hbody f cdv A outer s H E qs out err hr h3
    have post : ∀ {Θ : List Cel} {F' H' : Hp}, OkF ⟨F, minus H x, []⟩ Θ F' H' → Same (minus H x) H' ∧ Same F F' ∧ Same F' H' ∧ Newer F (minus H x) F' := fun ok => ⟨fun a o h => ok.h0 a o (by simp) h, ok.f0, ok.fh, ok.nw⟩
    have c1 : ∀ p, out p → ∀ (σ : L2.St) F' H', (∃ Θ, OkF ⟨F, minus H x, []⟩ Θ F' H') → p.p F' (.ref x) → Q .non H' := fun p hp σ F' H' ⟨Θ, ok⟩ hv => by
      obtain ⟨a, b, c, d⟩ := post ok
      exact h4 p hp F' H' a b c d hv
    have c2 : Rse ⟨F, minus H x, []⟩ E err := fun e he Θ F' H' d us ok hd hf => by
      obtain ⟨a, b, c, n⟩ := post ok
      exact h5 e he F' H' d us a b c n hd hf
    exact ⟨t, ht, hk ⟨F, minus H x, []⟩ x dx (fun _ H' => Q .non H') Q c1 (fun p hp F' H' => c1 p hp [] F' H') c2 _ F H (okf_init hx fx fh) (env_start (vs := .ref x :: vs') (.cons rfl h2))⟩
theorem SrcIK.okW {α β : Type} {args : α → List Vp} {md : α → DM β} {g : β → List (Str × Vp)} (F : SrcIK K C qual st) (S : FnScope N ps (defScope st)) (len : ∀ x, (args x).length + 1 = ps.length)
    (hbody : ∀ (f : Addr) (cdv : Value) (A : Around) (outer : List Env) (s : Shared) (H : Hp) (E : XK) (a : α) (Q : β → Prop) (X : HE → Prop), Room k (A.deeper (envOfC qual (defScope st) s.heap.objs.size f cdv)) → md a Q X →
      ∃ t, PSs (cxOf (L2.CX P w) P w K mg base N qual (defScope st) f cdv A outer s H E) (defBody st) t ∧ ∀ fr x dx (Qn : L2.St → Hp → Prop) (rt : VK), InitW fr x C g Qn Q → RseW fr E ef X → Kn fr (envOf N (zAt x :: args a)) [cI x C dx []] (t { nx := Qn, rt := rt })) : DefIK P w K mg base (L2.CX P w) (k + 1) C ps (spI C (preW ef args (zIn C g) md)) :=
  F.okAX S (fun qs out err ⟨a, Q, X, e, _⟩ => by rw [e]; exact len a) fun f cdv A outer s H E qs out err hr ⟨a, Q, X, e1, h, e2, e3⟩ => by
    subst e1 e2 e3
    obtain ⟨t, ht, hk⟩ := hbody f cdv A outer s H E a Q X hr h
    refine ⟨t, ht, fun fr x dx Qn rt hq hrt hrse => hk fr x dx Qn rt (fun y hy Γ Θ i dx' hi σ F' H' ok env => ?_) fun z hz Γ Θ => kr_E hrse ⟨z, hz, rfl⟩⟩
    obtain ⟨h1, ⟨o, h2, us, rfl, h4⟩, h5⟩ := ok.ce _ (List.mem_of_getElem? hi)
    have ok2 := ok.frz hi rfl h2
    have sF : Same F' (upd F' x (.ins C dx' us)) := same_upd h1
    exact hq _ ⟨y, hy, rfl⟩ σ _ H' ⟨_, ok2⟩ ⟨x, dx', us, rfl, upd_same, h4.mono sF⟩
end
end L2
set_option Elab.async false
set_option linter.all false
set_option maxRecDepth 100000
set_option maxHeartbeats 4000000
namespace L2
open PySem PySem.Spec PyProof.Rows PySem.HErr
section
variable {fr fr' : Fr} {Γ Γ' : Gam} {Θ Θ' Θl Θr : List Cel} {F F' H H' : Hp} {K : Vp → List Cel → Prop} {Qv : VK}
theorem sps_CP {pre : PreC} {E : L2.St → XK} {ps : List Vp} {out : Vp → List Cel → Prop} {err : Er → List Cel → Prop} (hp : pre ps Θl out err) (pm : Θ.Perm (Θl ++ Θr)) (k : ∀ p Θ', out p Θ' → ∃ Θ2, Θ2.Perm (Θ' ++ Θr) ∧ K p Θ2) (x : ∀ e Θ', err e Θ' → ∃ Θ2, Θ2.Perm (Θ' ++ Θr) ∧ Kr fr Γ Θ2 (fun cls d σ H => E σ cls d H) e) : Sps fr Γ Θ (spC pre) E ps K := fun σ F H vs ok env hps Q q => by
  have ok := ok.perm pm
  refine ⟨F, ps, Θl, out, err, ok.fh, ok.cellsAt, hps, hp, fun p Θ' ho v F' H' ef h => ?_, fun e Θ' he F' H' d us ef hd hf => ?_⟩
  · obtain ⟨Θ2, p2, kk⟩ := k p Θ' ho
    exact q p _ kk v F' H' ef.ff ((ok.eff ef).perm p2.symm) h
  · obtain ⟨Θ2, p2, kk⟩ := x e Θ' he
    exact kk σ F' H' ((ok.eff ef).perm p2.symm) (env.mono ef.ff) d us hd hf
theorem sps_LP {α β γ : Type} {ef : HE → Er} {args : List Addr → α → List Vp} {cin : List Addr → α → List Cel} {r : Rep β} {cout : List Addr → α → γ → List Cel} {m : α → DM (β × γ)} {E : L2.St → XK} {ps : List Vp} {Q : β × γ → Prop} {X : HE → Prop} (as : List Addr) (x : α) (T : γ → List Cel) (pm : Θ.Perm (cin as x ++ Θr)) (pm2 : ∀ g, (T g).Perm (cout as x g ++ Θr)) (h : m x Q X)
    (k : ∀ y : β × γ, Q y → K (iz r y.1) (T y.2)) (xx : ∀ z, X z → ∀ g, Kr fr Γ (T g) (fun cls d σ H => E σ cls d H) (ef z)) (e : ps = args as x := by rfl) : Sps fr Γ Θ (spC (preL ef args cin r cout m)) E ps K :=
  sps_CP ⟨as, x, Q, X, e, rfl, h, rfl, rfl⟩ pm (fun p Θ' ⟨y, g, hq, e1, e2⟩ => by subst e1 e2; exact ⟨T g, pm2 g, k (y, g) hq⟩) fun er Θ' ⟨z, g, hz, e1, e2⟩ => by subst e1 e2; exact ⟨T g, pm2 g, xx z hz g⟩
theorem sps_LP0 {α β γ : Type} {ef : HE → Er} {args : List Addr → α → List Vp} {cin : List Addr → α → List Cel} {r : Rep β} {cout : List Addr → α → γ → List Cel} {m : α → DM (β × γ)} {E : L2.St → XK} {ps : List Vp} {Q : β × γ → Prop} (as : List Addr) (x : α) (T : γ → List Cel) (pm : Θ.Perm (cin as x ++ Θr)) (pm2 : ∀ g, (T g).Perm (cout as x g ++ Θr)) (h : m x Q noX)
    (k : ∀ y : β × γ, Q y → K (iz r y.1) (T y.2)) (e : ps = args as x := by rfl) : Sps fr Γ Θ (spC (preL ef args cin r cout m)) E ps K := sps_LP as x T pm pm2 h k (fun z hz => hz.elim) e
end
end L2
set_option Elab.async false
set_option linter.all false
set_option maxRecDepth 100000
set_option maxHeartbeats 4000000
namespace L2
open PySem PySem.Spec PyProof.Rows PySem.HErr
/-- an address as a thing -/
def zR : Rep Addr := ⟨fun _ v a => v = .ref a, fun _ h => h⟩
/-- ghost rows of a dict of own lists: key, the list's place, what is in it -/
abbrev GR (α : Type) := List (List Int × Addr × List α)
def gK {α : Type} (g : GR α) : List (List Int × Addr) := g.map fun x => (x.1, x.2.1)
def gC {α : Type} (r : Rep α) (g : GR α) : List Cel := g.map fun x => cY x.2.1 r x.2.2
def GNd {α : Type} (g : GR α) : Prop := (g.map (·.1)).Nodup
end L2
set_option Elab.async false
set_option linter.all false
set_option maxRecDepth 100000
set_option maxHeartbeats 4000000
namespace L2
open PySem PySem.Spec PyProof.Rows PySem.HErr
section
variable {fr fr' : Fr} {Γ Γ' : Gam} {Θ Θ' : List Cel} {F F' H H' : Hp} {K : Vp → List Cel → Prop} {Qv : VK}
theorem gK_set {α : Type} {g : GR α} {m : Nat} {k : List Int} {b : Addr} {v v' : List α} (h : g[m]? = some (k, b, v)) : gK (g.set m (k, b, v')) = gK g := by
  unfold gK
  rw [List.map_set]
  refine List.ext_getElem? fun j => ?_
  rw [List.getElem?_set, List.length_map]
  split
  · rename_i e
    subst e
    rw [List.getElem?_map, h]
    split
    · rfl
    · rename_i q
      exact absurd (List.getElem?_eq_some_iff.mp h).1 q
  · rfl
theorem GNd.set {α : Type} {g : GR α} {m : Nat} {k : List Int} {b : Addr} {v v' : List α} (n : GNd g) (h : g[m]? = some (k, b, v)) : GNd (g.set m (k, b, v')) := by
  have e : (g.set m (k, b, v')).map (·.1) = (gK (g.set m (k, b, v'))).map (·.1) := by unfold gK; rw [List.map_map]; rfl
  unfold GNd
  rw [e, gK_set h]
  unfold gK
  rw [List.map_map]
  exact n
end
end L2
set_option Elab.async false
set_option linter.all false
set_option maxRecDepth 100000
set_option maxHeartbeats 4000000
namespace L2
open PySem PySem.Spec PyProof.Rows PySem.HErr
def RetNW {β : Type} (fr : Fr) (Qv : VK) (res : β → List Addr → Vp) (cel : β → List Addr → List Cel) (Q : β → Prop) : Prop := ∀ y as, Q y → ∀ Θ'' Θx, Θ''.Perm (cel y as ++ Θx) → Rt fr Θ'' Qv (res y as)
section
variable {fr fr' : Fr} {Γ Γ' : Gam} {Θ Θ' Θr : List Cel} {F F' H H' : Hp} {K : Vp → List Cel → Prop} {Qv : VK}
theorem RetNW.fine {β : Type} {res : β → List Addr → Vp} {cel : β → List Addr → List Cel} {Q : β → Prop} (h : RetNW fr Qv res cel Q) (l : FrLe fr fr') : RetNW fr' Qv res cel Q := fun y as hy Θ'' Θx pm => (h y as hy Θ'' Θx pm).fine l
/-- what may be known while the cells Θb are lent -/
def LendR (Θb : List Cel) (F Fl : Hp) : Prop := Same F Fl ∧ ∀ c ∈ Θb, ∃ o, Fl c.a = some o ∧ c.φ F o
/-- an own list, seen as a value -/
theorem LendR.lst {α : Type} {r : Rep α} {a : Addr} {xs : List α} {Fl : Hp} (h : LendR Θ F Fl) {j : Nat} (hj : Θ[j]? = some (cY a r xs)) {v : V} (hv : (iz zR a).p F v) : (iz (yL r) xs).p Fl v := by
  obtain ⟨o, h2, ⟨⟨vs, rfl, h4⟩, h5⟩⟩ := h.2 _ (List.mem_of_getElem? hj)
  have hv : v = .ref a := hv
  subst hv
  exact ⟨⟨a, vs, rfl, h2, Paired.imp2 (fun _ _ q => r.mono h.1 q) h4⟩, h5⟩
end
end L2
set_option Elab.async false
set_option linter.all false
set_option maxRecDepth 100000
set_option maxHeartbeats 4000000
namespace L2
open PySem PySem.Spec PyProof.Rows PySem.HErr
end L2
set_option Elab.async false
set_option linter.all false
set_option maxRecDepth 100000
set_option maxHeartbeats 4000000
namespace L2
open PySem PySem.Spec PyProof.Rows PySem.HErr
end L2
set_option Elab.async false
set_option linter.all false
set_option maxRecDepth 100000
set_option maxHeartbeats 4000000
namespace L2
open PySem PySem.Spec PyProof.Rows PySem.HErr
end L2
set_option Elab.async false
set_option linter.all false
set_option maxRecDepth 100000
set_option maxHeartbeats 4000000
namespace L2
open PySem PySem.Spec PyProof.Rows PySem.HErr
open PySem.W (findIn isFn)
end L2
set_option Elab.async false
set_option linter.all false
set_option maxRecDepth 100000
set_option maxHeartbeats 4000000
namespace L2
open PySem PySem.Spec PyProof.Rows PySem.HErr
instance {α β : Type} {r : Rep α} {s : Rep β} [d : XDat r] [e : XDat s] : XDat (yU r s) := ⟨fun x => match x with | .inl a => d.enc a | .inr b => e.enc b, max d.dep e.dep, fun {F v x} h => by
  cases x with
  | inl a => exact ⟨(d.xd h).1, Nat.le_trans (d.xd h).2 (Nat.le_max_left _ _)⟩
  | inr b => exact ⟨(e.xd h).1, Nat.le_trans (e.xd h).2 (Nat.le_max_right _ _)⟩⟩
instance {α β : Type} {r : Rep α} {s : Rep β} [d : NotNon r] [e : NotNon s] : NotNon (yU r s) := ⟨fun F v x h => by
  cases x with
  | inl a => exact d.nn F v a h
  | inr b => exact e.nn F v b h⟩
end L2
set_option Elab.async false
set_option linter.all false
set_option maxRecDepth 100000
set_option maxHeartbeats 4000000
namespace L2
open PySem PySem.Spec PyProof.Rows PySem.HErr
class EDat {α : Type} (r : Rep α) where
  enc : α → PyData
  dep : Nat
  dp : ∀ {Kf : PySem.W.Frag} {F : Hp} {v : V} {x : α}, r.p F v x → Dp Kf F v (enc x)
  cl : ∀ {F : Hp} {v : V} {x : α}, r.p F v x → (enc x).canLay0 = true
  dl : ∀ {F : Hp} {v : V} {x : α}, r.p F v x → (enc x).depth ≤ dep
instance (priority := low) edX {α : Type} {r : Rep α} [d : XDat r] : EDat r := ⟨d.enc, d.dep, fun {Kf F v x} h => (xp_dp (Kf := Kf) _ _ (d.xd h).1).1, fun {F v x} h => lay_nb _ (xp_dp (Kf := []) _ _ (d.xd h).1).2, fun h => (d.xd h).2⟩
instance edB : EDat zB := ⟨PyData.bool, 0, fun h => by cases (show _ = V.bl _ from h); exact .bl _, fun _ => by simp only [PyData.canLay0], fun _ => by simp [PyData.depth]⟩
instance edN : EDat yN := ⟨fun _ => PyData.none, 0, fun h => by cases (show _ = V.non from h); exact .non, fun _ => by simp only [PyData.canLay0], fun _ => by simp [PyData.depth]⟩
instance ed2 {α β : Type} {r : Rep α} {s : Rep β} [d : EDat r] [e : EDat s] : EDat (z2 r s) := ⟨fun x => .tuple [d.enc x.1, e.enc x.2], max d.dep e.dep + 1, fun ⟨a, v1, v2, h1, h2, h3, h4⟩ => by subst h1; exact .tup (SqT.of h2) (.cons (d.dp h3) (.cons (e.dp h4) .nil)),
  fun ⟨a, v1, v2, h1, h2, h3, h4⟩ => by simp only [PyData.canLay0, PyData.canLayAll0, d.cl h3, e.cl h4, Bool.and_self],
  fun ⟨a, v1, v2, h1, h2, h3, h4⟩ => by
    have := d.dl h3
    have := e.dl h4
    simp only [PyData.depth, PyData.depthAll]
    omega⟩
instance ed3 {α β γ : Type} {r : Rep α} {s : Rep β} {t : Rep γ} [d : EDat r] [e : EDat s] [f : EDat t] : EDat (z3 r s t) := ⟨fun x => .tuple [d.enc x.1, e.enc x.2.1, f.enc x.2.2], max d.dep (max e.dep f.dep) + 1, fun ⟨a, v1, v2, v3, h1, h2, h3, h4, h5⟩ => by subst h1; exact .tup (SqT.of h2) (.cons (d.dp h3) (.cons (e.dp h4) (.cons (f.dp h5) .nil))),
  fun ⟨a, v1, v2, v3, h1, h2, h3, h4, h5⟩ => by simp only [PyData.canLay0, PyData.canLayAll0, d.cl h3, e.cl h4, f.cl h5, Bool.and_self],
  fun ⟨a, v1, v2, v3, h1, h2, h3, h4, h5⟩ => by
    have := d.dl h3
    have := e.dl h4
    have := f.dl h5
    simp only [PyData.depth, PyData.depthAll]
    omega⟩
instance edO {α : Type} {r : Rep α} [d : EDat r] : EDat (yO r) := ⟨fun x => match x with | none => .none | some y => d.enc y, d.dep, fun {Kf F v x} h => by
    cases x with
    | none => cases (show v = V.non from h); exact .non
    | some y => exact d.dp h,
  fun {F v x} h => by
    cases x with
    | none => simp only [PyData.canLay0]
    | some y => exact d.cl h,
  fun {F v x} h => by
    cases x with
    | none => simp [PyData.depth]
    | some y => exact d.dl h⟩
instance edU {α β : Type} {r : Rep α} {s : Rep β} [d : EDat r] [e : EDat s] : EDat (yU r s) := ⟨fun x => match x with | .inl a => d.enc a | .inr b => e.enc b, max d.dep e.dep, fun {Kf F v x} h => by
    cases x with
    | inl a => exact d.dp h
    | inr b => exact e.dp h,
  fun {F v x} h => by
    cases x with
    | inl a => exact d.cl h
    | inr b => exact e.cl h,
  fun {F v x} h => by
    cases x with
    | inl a => exact Nat.le_trans (d.dl h) (Nat.le_max_left ..)
    | inr b => exact Nat.le_trans (e.dl h) (Nat.le_max_right ..)⟩
end L2
set_option Elab.async false
set_option linter.all false
set_option maxRecDepth 100000
set_option maxHeartbeats 4000000
namespace L2
open PySem PySem.Spec PyProof.Rows PySem.HErr
instance {α β : Type} {r : Rep α} {s : Rep β} [d : XDat r] [e : XDat s] [b : XBack r] [c : XBack s] [m : XNoS s] : XBack (z2 r s) := ⟨fun {F v x} h hd => by
  simp only [XDat.enc, xp] at h
  obtain ⟨a, vs, h1, h2, h3, h4⟩ := h
  simp only [xpAll] at h4
  obtain ⟨v1, r1, rfl, h5, v2, r2, rfl, h6, rfl⟩ := h4
  simp only [XDat.enc, PyData.depth, PyData.depthAll] at hd
  exact ⟨a, v1, v2, h1, h2.nar (by rw [isSDs_no (List.mem_cons_of_mem _ (List.mem_cons_self ..)) (m.ns x.2)]; rfl), b.bk h5 (by omega), c.bk h6 (by omega)⟩⟩
instance {α β : Type} {r : Rep α} {s : Rep β} [d : XDat r] [e : XDat s] [b : XBack r] [c : XBack s] [n : XNoS r] : XBack (z2 r s) := ⟨fun {F v x} h hd => by
  simp only [XDat.enc, xp] at h
  obtain ⟨a, vs, h1, h2, h3, h4⟩ := h
  simp only [xpAll] at h4
  obtain ⟨v1, r1, rfl, h5, v2, r2, rfl, h6, rfl⟩ := h4
  simp only [XDat.enc, PyData.depth, PyData.depthAll] at hd
  exact ⟨a, v1, v2, h1, h2.nar (by rw [isSDs_no (List.mem_cons_self ..) (n.ns x.1)]; rfl), b.bk h5 (by omega), c.bk h6 (by omega)⟩⟩
end L2
set_option Elab.async false
set_option linter.all false
set_option maxRecDepth 100000
set_option maxHeartbeats 4000000
namespace L2
open PySem PySem.Spec PyProof.Rows PySem.HErr
/-- the classmethod m of the class at C stands in its def -/
structure SrcC (K : PySem.W.Frag) (C : Addr) (m qual : Str) (st : Stmt) (ps : List Str) : Prop where
  ex : ∃ p f fd, FunA K m qual st f fd ∧ ClX.CRead K C (.type "type") ∧ ClX.CMet K C (.type "type") m p f ∧ Binds K fd ps []
structure DefC (P : Program) (w : World) (K : PySem.W.Frag) (mg : Str → Option Value) (base : Heap) (CX : CXT) (k : Nat) (C : Addr) (m : Str) (ps : List Str) (sp : Sp) : Prop where
  ex : ∃ p f fd, LkF K f fd ∧ ClX.CRead K C (.type "type") ∧ ClX.CMet K C (.type "type") m p f ∧ Binds K fd ps [] ∧ FnOk P w K mg base CX k f fd ps sp
section
variable {P : Program} {w : World} {K : PySem.W.Frag} {mg : Str → Option Value} {base : Heap} {CX : CXT} {m qual : Str} {C : Addr} {st : Stmt} {N ps : List Str} {k j : Nat} {sp : Sp}
theorem DefC.mono (D : DefC P w K mg base CX j C m ps sp) (h : j ≤ k) : DefC P w K mg base CX k C m ps sp := by
  obtain ⟨p, f, fd, h1, h2, h3, h4, h5⟩ := D.ex
  exact ⟨p, f, fd, h1, h2, h3, h4, h5.mono h⟩
theorem SrcC.okX (F : SrcC K C m qual st ps) (S : FnScope N ps (defScope st)) (len : ∀ vs H Q E, sp vs H Q E → vs.length = ps.length)
    (hbody : ∀ (f : Addr) (cdv : Value) (A : Around) (outer : List Env) (s : Shared) (H : Hp) (vs : List V) (Q : VK) (E : XK), Room k (A.deeper (envOfC qual (defScope st) s.heap.objs.size f cdv)) → sp vs H Q E →
      ∃ t, PSs (cxOf (L2.CX P w) P w K mg base N qual (defScope st) f cdv A outer s H E) (defBody st) t ∧ t { nx := fun _ H' => Q .non H', rt := Q } (start N vs) H) : DefC P w K mg base (L2.CX P w) (k + 1) C m ps sp := by
  obtain ⟨p, f, fd, h1, h2, h3, h4⟩ := F.ex
  exact ⟨p, f, fd, h1.lk, h2, h3, h4, h1.okX S len (hbody f)⟩
theorem SrcC.okAX {pre : Pre} (F : SrcC K C m qual st ps) (S : FnScope N ps (defScope st)) (len : ∀ qs out err, pre qs out err → qs.length = ps.length)
    (hbody : ∀ (f : Addr) (cdv : Value) (A : Around) (outer : List Env) (s : Shared) (H : Hp) (E : XK) (qs : List Vp) (out : Vp → Prop) (err : Er → Prop), Room k (A.deeper (envOfC qual (defScope st) s.heap.objs.size f cdv)) → pre qs out err →
      ∃ t, PSs (cxOf (L2.CX P w) P w K mg base N qual (defScope st) f cdv A outer s H E) (defBody st) t ∧ ∀ fr Q, Ret fr Q out → Rse fr E err → Kn fr (envOf N qs) [] (t { nx := fun _ H' => Q .non H', rt := Q })) : DefC P w K mg base (L2.CX P w) (k + 1) C m ps (spA pre) := by
  refine F.okX S (fun vs H Q E h => ?_) (fun f cdv A outer s H vs Q E hr h => ?_)
  · obtain ⟨F, qs, out, err, _, h2, h3, _⟩ := h
    rw [← Paired.len h2]
    exact len _ _ _ h3
  · obtain ⟨F, qs, out, err, h1, h2, h3, h4, h5⟩ := h
    obtain ⟨t, ht, hk⟩ := hbody f cdv A outer s H E qs out err hr h3
    exact ⟨t, ht, hk _ Q h4.ret h5.rse _ F H (OkF.start h1) (env_start h2)⟩
theorem SrcC.okWX {α β : Type} {ef : HE → Er} {args : α → List Vp} {r : Rep β} {md : α → DM β} (F : SrcC K C m qual st ps) (S : FnScope N ps (defScope st)) (len : ∀ x, (args x).length = ps.length)
    (hbody : ∀ (f : Addr) (cdv : Value) (A : Around) (outer : List Env) (s : Shared) (H : Hp) (E : XK) (a : α) (Q : β → Prop) (X : HE → Prop), Room k (A.deeper (envOfC qual (defScope st) s.heap.objs.size f cdv)) → md a Q X →
      ∃ t, PSs (cxOf (L2.CX P w) P w K mg base N qual (defScope st) f cdv A outer s H E) (defBody st) t ∧ ∀ fr Qv, RetW fr Qv r Q → RseW fr E ef X → Kn fr (envOf N (args a)) [] (t { nx := fun _ H' => Qv .non H', rt := Qv })) : DefC P w K mg base (L2.CX P w) (k + 1) C m ps (spA (preW ef args r md)) :=
  F.okAX S (fun qs out err ⟨a, Q, X, e, _⟩ => by rw [e]; exact len a) fun f cdv A outer s H E qs out err hr ⟨a, Q, X, e1, h, e2, e3⟩ => by
    subst e1 e2 e3
    obtain ⟨t, ht, hk⟩ := hbody f cdv A outer s H E a Q X hr h
    exact ⟨t, ht, fun fr Qv hret hrse => hk fr Qv (fun y hy Θ => hret _ ⟨y, hy, rfl⟩ Θ) fun z hz Γ Θ => kr_E hrse ⟨z, hz, rfl⟩⟩
end
end L2
set_option Elab.async false
set_option linter.all false
set_option maxRecDepth 100000
set_option maxHeartbeats 4000000
namespace L2
open PySem PySem.Spec PyProof.Rows PySem.HErr
end L2
set_option Elab.async false
set_option linter.all false
set_option maxRecDepth 100000
set_option maxHeartbeats 4000000
namespace L2
open PySem PySem.Spec PyProof.Rows PySem.HErr
section
variable {X : Cx} {K : PySem.W.Frag} {o e : Expr} {es : List Expr} {to : TE} {t : TA} {name : Str} {apos cpos : Pos} {id : String} {r : V → List V → Hp → VK → Prop}
def tIxK (r : V → List V → Hp → VK → Prop) (to : TE) (t : TA) : TE := fun σ H Q => to σ H fun x H1 => (∃ a xs, x = .ref a ∧ TupK H1 a xs) ∧ t σ H1 fun ys H2 => r x ys H2 Q
theorem pe_bmK (slot : Slot "tuple" name id) (hty : typeOf (.builtin id) = pure (.type "method_descriptor")) (hm : MtR X id r) (ho : PE X o to) (ha : PA X (e :: es) t)
    (hbase : attributeBase o name X.env (eval o X.env) = eval o X.env := by rfl)
    (hfew : ((backTo cpos (starEach (e :: es) X.env)).all (fun x => !x.1) && (backToKw cpos (keywordEach [] X.env)).all (fun x => x.1.isSome)
      && decide ((e :: es).length + ([] : List Keyword).length + (if ([] : List Keyword).isEmpty then 0 else 1) < 30)) = true := by rfl)
    (hline : (apos.endLine == cpos.line) = true := by rfl) (hs : starEach (e :: es) X.env = (false, eval e X.env) :: starEach es X.env := by rfl) (hplain : (backTo cpos (starEach es X.env)).any (·.1) = false := by rfl) :
    PE X (.Call (.Attribute o name apos) (e :: es) [] cpos) (tIxK r to t) := by
  refine ⟨fun pins s σ H Q I h => ?_⟩
  refine wpAny_Call_method_late hbase hfew hline rfl (thn (ho.run pins s σ H _ I h) fun v s1 ⟨x, H1, I1, r1, ty, q1⟩ => ?_)
  obtain ⟨a, xs, rfl, ob, hb, oc, od⟩ := ty
  cases r1
  have hg : s1.heap.get? a = some ob := (I1.hok a _ hb).1
  refine ⟨"tuple", id, PySem.F.plainAttrs_tuple, slot, hty, ⟨ob, hg, oc⟩, (fun b eb => by cases eb; exact ⟨ob, hg, od⟩), ?_⟩
  have hA := ha.run cpos pins s1 σ H1 _ I1 q1
  rw [hs] at hA ⊢
  refine Calls.callWith_builtin (by show (false || (backTo cpos (starEach es X.env)).any (·.1)) = false; rw [hplain] <;> rfl) (Calls.evalArgs_plain ?_)
  exact thn hA fun us s2 ⟨vs, H2, I2, r2, q2⟩ => hm pins s2 σ H2 (.ref a) vs _ us Q I2 rfl r2 q2
theorem pe_ixK (ho : PE X o to) (ha : PA X (e :: es) t) (hbase : attributeBase o "index" X.env (eval o X.env) = eval o X.env := by rfl)
    (hfew : ((backTo cpos (starEach (e :: es) X.env)).all (fun x => !x.1) && (backToKw cpos (keywordEach [] X.env)).all (fun x => x.1.isSome)
      && decide ((e :: es).length + ([] : List Keyword).length + (if ([] : List Keyword).isEmpty then 0 else 1) < 30)) = true := by rfl)
    (hline : (apos.endLine == cpos.line) = true := by rfl) (hs : starEach (e :: es) X.env = (false, eval e X.env) :: starEach es X.env := by rfl) (hplain : (backTo cpos (starEach es X.env)).any (·.1) = false := by rfl) (h : X.K = K := by rfl) :
    PE X (.Call (.Attribute o "index" apos) (e :: es) [] cpos) (tIxK (rIndexT K) to t) := pe_bmK PySem.F.slot_tuple_index PySem.F.type_tuple_index (kmt_indexT h) ho ha hbase hfew hline hs hplain
end
section
variable {fr fr' : Fr} {Γ Γ' : Gam} {Θ Θ' : List Cel} {F F' H H' : Hp} {K : Vp → List Cel → Prop} {Qv : VK}
def yK : Rep (List Str) := ⟨fun F v xs => zK.p F v xs ∧ xs.length ≤ big ∧ ∀ y ∈ xs, y.length ≤ big, fun e h => ⟨zK.mono e h.1, h.2⟩⟩
theorem pvs_yS {F : Hp} : ∀ {vs : List V} {xs : List Str}, PVs zS F vs xs → (∀ y ∈ xs, y.length ≤ big) → PVs yS F vs xs
  | _, _, .nil, _ => .nil
  | _, _, .cons a b, h => .cons ⟨a, h _ (List.mem_cons_self ..)⟩ (pvs_yS b fun y hy => h y (List.mem_cons_of_mem _ hy))
theorem we_ixK {Kf : PySem.W.Frag} {to : TE} {t : TA} (w : We fr Γ Θ to fun p Θ1 => ∃ xs : List Str, p = iz yK xs ∧ xs ≠ [] ∧ Wa fr Γ Θ1 t fun ps Θ2 => ∃ x : Str, ps = [iz yS x] ∧ x ∈ xs ∧ K (iz zI (xs.idxOf x : Nat)) Θ2) : We fr Γ Θ (tIxK (rIndexT Kf) to t) K := fun σ F H ok env Q q =>
  w σ F H ok env _ fun p Θ1 ⟨xs, e, hne, k⟩ v F1 H1 s1 ok1 hp => by
    subst e
    obtain ⟨⟨a, vs, rfl, h2, h3⟩, hl, hy⟩ := hp
    have hk : TupK F1 a vs := by
      rcases h2 with ⟨h0, _⟩ | ⟨_, h⟩
      · exact absurd (List.isEmpty_iff.mp h0) hne
      · exact h
    refine ⟨⟨a, vs, rfl, hk.mono ok1.fh⟩, k σ F1 H1 ok1 (env.mono s1) _ fun ps Θ2 ⟨x, e2, hx, k2⟩ us F2 H2 s2 ok2 hps => ?_⟩
    subst e2
    exact my_indexT hx k2 F2 H2 (.ref a) us ok2 ⟨⟨a, vs, rfl, (h2.mono s2).tb, pvs_yS (Paired.imp2 (fun _ _ h => zS.mono s2 h) h3) hy⟩, hl⟩ hps Q (q.mono (s1.trans s2))
end
section
variable {fr : Fr} {Θ : List Cel} {K : PySem.W.Frag} {mg : Str → Option Value} {C : Addr} {d : PlanD}
theorem fk_places0 (T : PlanK K C) : FldR K "places" (iz (zPlan C) d) (iz zK d.places) := fun F v ⟨x, h1, h2, h3⟩ => by
  obtain ⟨dx, tp, tb, td, tg, ts, kt, kg, p1, p2, p3, p4, p5, p6, p7, p8⟩ := h2.ex
  exact ⟨x, C, dx, _, _, h1, p1, T.cl, T.nP, rfl, tp, _, rfl, p2, strs_pvs fun y hy => (h3.pa y hy).asc⟩
theorem fk_places (T : PlanC K mg C) : FldP fr Θ K "places" (iz (zPlan C) d) (iz yK d.places) := ((fk_places0 T.k).conv fun F v u hp hq => show yK.p F u d.places from ⟨hq, Nat.le_trans (plan_ok hp).p12 (by decide), fun y hy => wd_big ((plan_ok hp).pa y hy)⟩).p
end
end L2
set_option Elab.async false
set_option linter.all false
set_option maxRecDepth 100000
set_option maxHeartbeats 4000000
namespace L2
open PySem PySem.Spec PyProof.Rows PySem.HErr
def Reach (tab : List TRw) (s z : List Int) : Prop := ∃ zs, runF tab s zs = some z
theorem Reach.refl {tab : List TRw} {s : List Int} : Reach tab s s := ⟨[], rfl⟩
theorem runF_one {tab : List TRw} (hn : (tab.map (·.1)).Nodup) {r : TRw} (hr : r ∈ tab) {s : List Int} : runF tab s [r.1] = movF s r.2.1 r.2.2 := by
  unfold runF
  rw [rowOf_of hn hr]
  dsimp only
  cases movF s r.2.1 r.2.2 <;> rfl
theorem Reach.trans {tab : List TRw} {a b c : List Int} (h : Reach tab a b) (g : Reach tab b c) : Reach tab a c := by
  obtain ⟨zs, h⟩ := h
  obtain ⟨ys, g⟩ := g
  exact ⟨zs ++ ys, by rw [runF_app, h]; exact g⟩
theorem Reach.mov {tab : List TRw} (hn : (tab.map (·.1)).Nodup) {r : TRw} (hr : r ∈ tab) {s z : List Int} (h : movF s r.2.1 r.2.2 = some z) : Reach tab s z := ⟨[r.1], by rw [runF_one hn hr]; exact h⟩
theorem Reach.step {tab : List TRw} (hn : (tab.map (·.1)).Nodup) {r : TRw} (hr : r ∈ tab) {a s z : List Int} (g : Reach tab a s) (h : movF s r.2.1 r.2.2 = some z) : Reach tab a z := g.trans (.mov hn hr h)
theorem Reach.keep {n : Nat} {tab : List TRw} (tk : TabOk n tab) {s z : List Int} (hs : s.length = n) (hn : NonN s) (h : Reach tab s z) : z.length = n ∧ NonN z := by
  obtain ⟨zs, h⟩ := h
  exact runF_keep tk zs hs hn h
end L2
set_option Elab.async false
set_option linter.all false
set_option maxRecDepth 100000
set_option maxHeartbeats 4000000
namespace L2
open PySem PySem.Spec PyProof.Rows PySem.HErr
section
variable {fr : Fr} {Γ : Gam} {Θ : List Cel} {K : Vp → List Cel → Prop}
theorem kn_nrm {Γ' : Gam} {M : L2.St → Hp → Prop} (e : Γ = Γ') (k : Kn fr Γ' Θ M) : Kn fr Γ Θ M := e ▸ k
end
end L2
set_option Elab.async false
set_option linter.all false
set_option maxRecDepth 100000
set_option maxHeartbeats 4000000
namespace L2
open PySem PySem.Spec PyProof.Rows PySem.HErr
end L2
set_option Elab.async false
set_option linter.all false
set_option maxRecDepth 100000
set_option maxHeartbeats 4000000
namespace L2
open PySem PySem.Spec PyProof.Rows PySem.HErr
end L2
set_option Elab.async false
set_option linter.all false
set_option maxRecDepth 100000
set_option maxHeartbeats 4000000
namespace L2
open PySem PySem.Spec PyProof.Rows PySem.HErr
open TL
/-- C.m is a staticmethod: its record at p, its def at g -/
structure SMet (K : PySem.W.Frag) (C : Addr) (m : Str) (p g : Addr) : Prop where
  at_ : PySem.W.findCls K (.ref C) (.type "type") m = some (.get (.builtin "staticmethod.__get__") (.ref p) .none (.ref C))
  rc : ∃ rest, PySem.W.recIn K p "staticmethod" = some (.ref g :: rest)
  kp : PySem.W.keepIn K (.ref g) = true
structure SrcS (K : PySem.W.Frag) (C : Addr) (m qual : Str) (st : Stmt) (ps : List Str) : Prop where
  ex : ∃ p f fd, FunA K m qual st f fd ∧ ClX.CRead K C (.type "type") ∧ SMet K C m p f ∧ Binds K fd ps []
structure DefS (P : Program) (w : World) (K : PySem.W.Frag) (mg : Str → Option Value) (base : Heap) (CX : CXT) (k : Nat) (C : Addr) (m : Str) (ps : List Str) (sp : Sp) : Prop where
  ex : ∃ p f fd, LkF K f fd ∧ ClX.CRead K C (.type "type") ∧ SMet K C m p f ∧ Binds K fd ps [] ∧ FnOk P w K mg base CX k f fd ps sp
section
variable {P : Program} {w : World} {K : PySem.W.Frag} {mg : Str → Option Value} {base : Heap} {CX : CXT} {m qual : Str} {C : Addr} {st : Stmt} {N ps : List Str} {k j : Nat} {sp : Sp}
theorem DefS.mono (D : DefS P w K mg base CX j C m ps sp) (h : j ≤ k) : DefS P w K mg base CX k C m ps sp := by
  obtain ⟨p, f, fd, h1, h2, h3, h4, h5⟩ := D.ex
  exact ⟨p, f, fd, h1, h2, h3, h4, h5.mono h⟩
theorem SrcS.okX (F : SrcS K C m qual st ps) (S : FnScope N ps (defScope st)) (len : ∀ vs H Q E, sp vs H Q E → vs.length = ps.length)
    (hbody : ∀ (f : Addr) (cdv : Value) (A : Around) (outer : List Env) (s : Shared) (H : Hp) (vs : List V) (Q : VK) (E : XK), Room k (A.deeper (envOfC qual (defScope st) s.heap.objs.size f cdv)) → sp vs H Q E →
      ∃ t, PSs (cxOf (L2.CX P w) P w K mg base N qual (defScope st) f cdv A outer s H E) (defBody st) t ∧ t { nx := fun _ H' => Q .non H', rt := Q } (start N vs) H) : DefS P w K mg base (L2.CX P w) (k + 1) C m ps sp := by
  obtain ⟨p, f, fd, h1, h2, h3, h4⟩ := F.ex
  exact ⟨p, f, fd, h1.lk, h2, h3, h4, h1.okX S len (hbody f)⟩
theorem SrcS.okAX {pre : Pre} (F : SrcS K C m qual st ps) (S : FnScope N ps (defScope st)) (len : ∀ qs out err, pre qs out err → qs.length = ps.length)
    (hbody : ∀ (f : Addr) (cdv : Value) (A : Around) (outer : List Env) (s : Shared) (H : Hp) (E : XK) (qs : List Vp) (out : Vp → Prop) (err : Er → Prop), Room k (A.deeper (envOfC qual (defScope st) s.heap.objs.size f cdv)) → pre qs out err →
      ∃ t, PSs (cxOf (L2.CX P w) P w K mg base N qual (defScope st) f cdv A outer s H E) (defBody st) t ∧ ∀ fr Q, Ret fr Q out → Rse fr E err → Kn fr (envOf N qs) [] (t { nx := fun _ H' => Q .non H', rt := Q })) : DefS P w K mg base (L2.CX P w) (k + 1) C m ps (spA pre) := by
  refine F.okX S (fun vs H Q E h => ?_) (fun f cdv A outer s H vs Q E hr h => ?_)
  · obtain ⟨F, qs, out, err, _, h2, h3, _⟩ := h
    rw [← Paired.len h2]
    exact len _ _ _ h3
  · obtain ⟨F, qs, out, err, h1, h2, h3, h4, h5⟩ := h
    obtain ⟨t, ht, hk⟩ := hbody f cdv A outer s H E qs out err hr h3
    exact ⟨t, ht, hk _ Q h4.ret h5.rse _ F H (OkF.start h1) (env_start h2)⟩
theorem SrcS.okWX {α β : Type} {ef : HE → Er} {args : α → List Vp} {r : Rep β} {md : α → DM β} (F : SrcS K C m qual st ps) (S : FnScope N ps (defScope st)) (len : ∀ x, (args x).length = ps.length)
    (hbody : ∀ (f : Addr) (cdv : Value) (A : Around) (outer : List Env) (s : Shared) (H : Hp) (E : XK) (a : α) (Q : β → Prop) (X : HE → Prop), Room k (A.deeper (envOfC qual (defScope st) s.heap.objs.size f cdv)) → md a Q X →
      ∃ t, PSs (cxOf (L2.CX P w) P w K mg base N qual (defScope st) f cdv A outer s H E) (defBody st) t ∧ ∀ fr Qv, RetW fr Qv r Q → RseW fr E ef X → Kn fr (envOf N (args a)) [] (t { nx := fun _ H' => Qv .non H', rt := Qv })) : DefS P w K mg base (L2.CX P w) (k + 1) C m ps (spA (preW ef args r md)) :=
  F.okAX S (fun qs out err ⟨a, Q, X, e, _⟩ => by rw [e]; exact len a) fun f cdv A outer s H E qs out err hr ⟨a, Q, X, e1, h, e2, e3⟩ => by
    subst e1 e2 e3
    obtain ⟨t, ht, hk⟩ := hbody f cdv A outer s H E a Q X hr h
    exact ⟨t, ht, fun fr Qv hret hrse => hk fr Qv (fun y hy Θ => hret _ ⟨y, hy, rfl⟩ Θ) fun z hz Γ Θ => kr_E hrse ⟨z, hz, rfl⟩⟩
end
section
variable {fr : Fr} {Γ : Gam} {Θ : List Cel} {F H : Hp} {K : Vp → List Cel → Prop}
/-- the signs of a text, each a text -/
def sgn (c : Nat) : Str := ⟨#[c]⟩
def sgnL (x : Str) : List Str := x.cps.toList.map sgn
theorem sgnL_len {x : Str} : (sgnL x).length = x.length := by
  unfold sgnL
  rw [List.length_map]
  rfl
theorem sgn_one {x : Str} (h : x.length = 1) : ∃ c, x = sgn c := by
  obtain ⟨⟨l⟩⟩ := x
  have h : l.length = 1 := h
  match l, h with
  | [c], _ => exact ⟨c, rfl⟩
theorem sgn_inj {c d : Nat} (h : sgn c = sgn d) : c = d := by
  unfold sgn at h
  injection h with h
  have := congrArg Array.toList h
  simpa using this
theorem sgnL_mem {c : Nat} {z : Str} : sgn c ∈ sgnL z ↔ c ∈ z.cps.toList := by
  unfold sgnL
  rw [List.mem_map]
  constructor
  · rintro ⟨d, hd, e⟩
    rw [← sgn_inj e]; exact hd
  · exact fun h => ⟨c, h, rfl⟩
theorem wi_str {te : TE} {K : List Vp → List Cel → Prop} (w : We fr Γ Θ te fun p Θ1 => ∃ x : Str, p = iz yS x ∧ ((sgnL x).length ≤ big → K ((sgnL x).map (iz yS)) Θ1)) : Wi fr Γ Θ (iStr te) K := fun σ F H ok env R q =>
  w σ F H ok env _ fun p Θ1 ⟨x, e, k⟩ v F1 H1 s1 ok1 hp => by
    subst e
    obtain ⟨⟨rfl, ax⟩, lx⟩ := hp
    refine ⟨x, rfl, q _ Θ1 (k (by rw [sgnL_len]; exact lx)) _ F1 H1 s1 ok1 fun F2 H2 s2 fh => ⟨fun i p hi => ?_, ?_⟩⟩
    · obtain ⟨z, hz, rfl⟩ := get_izs hi
      unfold sgnL at hz
      rw [List.getElem?_map] at hz
      obtain ⟨c, hc, rfl⟩ := Option.map_eq_some_iff.mp hz
      have hlt := (List.getElem?_eq_some_iff.mp hc).1
      refine ⟨by rw [Array.length_toList] at hlt; exact hlt, fun y H3 ⟨e1, d, hd, e2⟩ => ?_⟩
      subst e1 e2
      have hcd : c = d := by
        rw [Array.getElem?_toList] at hc
        rw [hc] at hd
        exact Option.some.inj hd
      subst hcd
      refine ⟨F2, Same.refl _, Same.refl _, fh, Newer.refl _ _, ⟨⟨rfl, fun b hb => ?_⟩, by show 1 ≤ big; decide⟩⟩
      have hb : b ∈ [c] := hb
      rw [List.mem_singleton.mp hb]
      exact ax c (List.mem_of_getElem? hc)
    · show x.cps.size ≤ ((sgnL x).map (iz yS)).length
      rw [List.length_map, sgnL_len]
      exact Nat.le_refl _
theorem oy_inG {x y : Str} (h : x.length = 1) (k : K (iz zB (decide (x ∈ sgnL y))) Θ) : Ops fr Θ (fun x y H Q => ∃ (c : Nat) (z : Str), x = .str ⟨#[c]⟩ ∧ y = .str z ∧ Q (.bl (decide (c ∈ z.cps.toList))) H) (iz yS x) (iz yS y) K := fun F H v w ok hv hw Q q => by
  obtain ⟨⟨rfl, _⟩, _⟩ := hv
  obtain ⟨⟨rfl, _⟩, _⟩ := hw
  obtain ⟨c, rfl⟩ := sgn_one h
  refine ⟨c, y, rfl, rfl, ?_⟩
  have e : decide (c ∈ y.cps.toList) = decide (sgn c ∈ sgnL y) := by simp only [sgnL_mem]
  rw [e]
  exact q.go k ok rfl
theorem oy_ninG {x y : Str} (h : x.length = 1) (k : K (iz zB (!decide (x ∈ sgnL y))) Θ) : Ops fr Θ (fun x y H Q => ∃ (c : Nat) (z : Str), x = .str ⟨#[c]⟩ ∧ y = .str z ∧ Q (.bl (!decide (c ∈ z.cps.toList))) H) (iz yS x) (iz yS y) K := fun F H v w ok hv hw Q q => by
  obtain ⟨⟨rfl, _⟩, _⟩ := hv
  obtain ⟨⟨rfl, _⟩, _⟩ := hw
  obtain ⟨c, rfl⟩ := sgn_one h
  refine ⟨c, y, rfl, rfl, ?_⟩
  have e : decide (c ∈ y.cps.toList) = decide (sgn c ∈ sgnL y) := by simp only [sgnL_mem]
  rw [e]
  exact q.go k ok rfl
end
end L2
set_option Elab.async false
set_option linter.all false
set_option maxRecDepth 100000
set_option maxHeartbeats 4000000
namespace L2
open PySem PySem.Spec PyProof.Rows PySem.HErr
/-- a thing whose value tells it without a heap -/
class FlatR {β : Type} (r : Rep β) : Prop where
  ok : ∀ {F F' : Hp} {v : V} {y : β}, r.p F' v y → r.p F v y
instance : FlatR zI := ⟨fun h => h⟩
instance : FlatR zB := ⟨fun h => h⟩
instance : FlatR yS := ⟨fun h => h⟩
section
variable {fr : Fr} {Γ : Gam} {Θ : List Cel} {F H : Hp} {K : Vp → List Cel → Prop}
theorem nodup_ne {α β : Type} {f : α → β} {l : List α} (nd : (l.map f).Nodup) {i j : Nat} {x y : α} (hi : l[i]? = some x) (hj : l[j]? = some y) (ne : i ≠ j) : f x ≠ f y := fun e => by
  have key : ∀ {i j : Nat} {x y : α}, i < j → l[i]? = some x → l[j]? = some y → f x ≠ f y := fun {i j x y} h hi hj => by
    obtain ⟨l1, e1⟩ := List.getElem?_eq_some_iff.mp hi
    obtain ⟨l2, e2⟩ := List.getElem?_eq_some_iff.mp hj
    have := List.pairwise_iff_getElem.mp nd i j (by rw [List.length_map]; exact l1) (by rw [List.length_map]; exact l2) h
    rw [List.getElem_map, List.getElem_map, e1, e2] at this
    exact this
  rcases Nat.lt_or_gt_of_ne ne with h | h
  · exact key h hi hj e
  · exact key h hj hi e.symm
theorem sps_KNl {α β γ : Type} {args : α → List Vp} {r : Rep β} [fl : FlatR r] {s : Rep γ} {m : α → DM β} {E : L2.St → XK} {ps : List Vp} {Q : β → Prop} {b l a : Addr} {xs : List γ} {i j N cost : Nat} (hj : Θ[j]? = some (cBagC N b l)) (hi : Θ[i]? = some (cY a s xs)) (ij : i ≠ j) (hN : N + cost ≤ LIM) (x : α) (h : m x Q noX)
    (k : ∀ y, Q y → K (iz r y) (Θ.set j (cBagC (N + cost) b l))) (hp : ∃ qs, ps = zAt b :: qs ∧ Paired (fun p q => p = q ∨ (p = zAt a ∧ q = iz (yL s) xs)) qs (args x)) : Sps fr Γ Θ (spC (preKN cost (preBW args r m))) E ps K := fun σ F H vs ok env hps Q' kq => by
  obtain ⟨qs, rfl, hq⟩ := hp
  obtain ⟨h0, ⟨o, h3, ⟨⟨us, rfl, h5⟩, h6⟩⟩, h7⟩ := ok.ce _ (List.mem_of_getElem? hi)
  have h0 : F a = none := h0
  have h3 : H a = some (.lst us) := h3
  have s2 : Same F (upd F a (.lst us)) := same_upd h0
  have ab : a ≠ b := nodup_ne ok.nd hi hj ij
  obtain ⟨Θr, pm, pm2⟩ := perm_set hj
  have ok1 := ok.perm pm
  obtain ⟨b0, ⟨ob, b1, b2⟩, b3⟩ := ok1.ce _ (List.mem_cons_self ..)
  have b0 : F b = none := b0
  have b1 : H b = some ob := b1
  have b3 : fr.H0 b = none := b3
  obtain ⟨ns0, i0, c0, r0, p1, p2, p3, p4, p5⟩ := id b2
  have la : l ≠ a := fun e => by rw [e, h0] at p4; cases p4
  have fh1 : Same (upd F a (.lst us)) H := fun d u e => by
    by_cases q : d = a
    · rw [q, upd_same] at e
      rw [q, h3, e]
    · rw [upd_ne q] at e
      exact ok.fh d u e
  have cells : CellsAt (upd F a (.lst us)) H [cBagC N b l] := ⟨by simp, fun c hc => by
    rw [List.mem_singleton.mp hc]
    exact ⟨by show upd F a (.lst us) b = none; rw [upd_ne (Ne.symm ab)]; exact b0, ob, b1, (cBagC N b l).mono s2 b2⟩⟩
  have hps2 : Paired (fun (p : Vp) v => p.p (upd F a (.lst us)) v) (zAt b :: args x) vs := by
    cases hps with
    | cons g1 g2 =>
      refine .cons g1 ?_
      have key : ∀ {qs rs : List Vp} {vs : List V}, Paired (fun p q => p = q ∨ (p = zAt a ∧ q = iz (yL s) xs)) qs rs → Paired (fun (p : Vp) v => p.p F v) qs vs → Paired (fun (p : Vp) v => p.p (upd F a (.lst us)) v) rs vs := by
        intro qs rs vs hq
        induction hq generalizing vs with
        | nil =>
          intro g
          cases g
          exact .nil
        | cons e _ ih =>
          intro g
          cases g with
          | cons g1 g2 =>
            refine .cons ?_ (ih g2)
            rcases e with e | ⟨e1, e2⟩
            · rw [← e]
              exact Vp.mono _ s2 g1
            · rw [e1] at g1
              have g1 : _ = V.ref a := g1
              rw [e2, g1]
              exact ⟨⟨a, us, rfl, upd_same, Paired.imp2 (fun _ _ h => s.mono s2 h) h5⟩, h6⟩
      exact key hq g2
  refine ⟨upd F a (.lst us), _, [cBagC N b l], _, _, fh1, cells, hps2, ⟨b, l, N, _, _, rfl, rfl, hN, ⟨x, Q, rfl, h, rfl⟩, rfl, rfl⟩, fun p Θ' ⟨⟨y, hy, ep⟩, hΘ⟩ v F' H' ef hv => ?_, fun e Θ' he => he.elim⟩
  subst hΘ ep
  have s3 : Same F F' := s2.trans ef.ff
  have hx : ∀ d o, d ≠ b → H d = some o → H' d = some o := fun d o hd ho => ef.hh d o (fun q => hd (List.mem_singleton.mp q)) ho
  have okc : OkF fr (cBagC (N + cost) b l :: Θr) F H' := by
    refine ⟨s3.trans ef.fh, ok1.f0, ok1.nw, fun d o hB ho => ?_, fun d o ho => ?_, ?_, fun c hc => ?_⟩
    · exact hx d o (fun q => by rw [q, b3] at ho; cases ho) (ok1.h0 d o hB ho)
    · obtain ⟨o', ho'⟩ := ok1.al d o ho
      exact ⟨o', hx d o' (fun q => by rw [q, b3] at ho; cases ho) ho'⟩
    · have := ok1.nd
      rw [List.map_cons] at this ⊢
      exact this
    · rcases List.mem_cons.mp hc with q | q
      · rw [q]
        obtain ⟨_, o2, w1, w2⟩ := ef.ca.2 _ (List.mem_singleton.mpr rfl)
        obtain ⟨ns, i, c, r, g1, g2, g3, g4, g5⟩ := w2
        refine ⟨b0, ⟨o2, w1, ns, i, c, r, g1, g2, g3, ?_, g5⟩, b3⟩
        have := s3 _ _ p4
        rw [g4] at this
        rw [this]
        exact p4
      · obtain ⟨w1, ⟨u, w2, w3⟩, w4⟩ := ok1.ce c (List.mem_cons_of_mem _ q)
        have cb : c.a ≠ b := fun e => by
          have nd := ok1.nd
          rw [List.map_cons, List.nodup_cons] at nd
          exact nd.1 (List.mem_map.mpr ⟨c, q, e⟩)
        exact ⟨w1, ⟨u, hx _ _ cb w2, w3⟩, w4⟩
  exact kq _ _ (k y hy) v F H' (Same.refl F) (okc.perm (pm2 _).symm) (fl.ok hv)
end
end L2
set_option Elab.async false
set_option linter.all false
set_option maxRecDepth 100000
set_option maxHeartbeats 4000000
namespace L2
open PySem PySem.Spec PyProof.Rows PySem.HErr
def eqb (k : Bool) (v : Value) : Bool := match v with
  | .bool n => n == k
  | _ => false
def rCntB (K : PySem.W.Frag) : V → List V → Hp → VK → Prop := fun x xs H Q => ∃ (p : Addr) (ns : List Bool) (k : Bool), x = .ref p ∧ xs = [.bl k] ∧ SqL K H p (ns.map V.bl) ∧ Q (.int (ns.count k : Nat)) H
theorem bools_of_vals : ∀ {ns : List Bool} {its : List Value}, Vals (ns.map V.bl) its → its = ns.map Value.bool
  | [], _, h => by cases h; rfl
  | n :: ns, _, h => by
    cases h with
    | cons a b =>
      have a : _ = Value.bool n := a
      rw [a, bools_of_vals b]
      rfl
theorem eqb_count {k : Bool} : ∀ {ns : List Bool}, (ns.map Value.bool).countP (eqb k) = ns.count k
  | [] => rfl
  | n :: ns => by
    rw [List.map_cons, List.countP_cons, List.count_cons, eqb_count] <;> rfl
section
variable {X : Cx}
theorem mt_lcountB : MtR X "list.count" (rCntB X.K) := by
  intro pins s σ H x xs v us Q I rx rxs h
  obtain ⟨p, ns, k, rfl, rfl, hs, q⟩ := h
  cases rx
  obtain ⟨u, rfl, ru⟩ := rxs.one
  have ru : u = Value.bool k := ru
  subst ru
  obtain ⟨its, rv, ⟨⟨cls, dd, data, sl⟩, n, ho, hc, hdn, hd⟩, hlen⟩ := I.list hs
  simp only at hc hd
  subst hc hd
  have hi := bools_of_vals rv
  subst hi
  refine call_meets PySem.F.slot_list_count ⟨_, ho, rfl⟩ PySem.F.entry_list_count (PySem.F.args_list_count_2 _ _)
    (SeqAt.list_countAt p (ns.map Value.bool).toArray n dd sl (.bool k) (eqb k)) ⟨ho, fun y hy => ?_, ?_⟩
  · have hy : y ∈ ns.map Value.bool := by simpa using hy
    obtain ⟨b, _, rfl⟩ := List.mem_map.mp hy
    exact SeqAt.EqAt.bool_bool b k
  have ec : (ns.map Value.bool).toArray.toList.countP (eqb k) = ns.count k := eqb_count
  refine ⟨.int (ns.count k : Nat), H, I.tok _, ⟨s.toks, ?_⟩, q⟩
  show Value.int (((ns.map Value.bool).toArray.toList.countP (eqb k) : Nat) : Int) s.toks = Value.int ((ns.count k : Nat) : Int) s.toks
  rw [ec]
end
theorem kmt_lcountB {X : Cx} {K : PySem.W.Frag} (h : X.K = K := by rfl) : MtR X "list.count" (rCntB K) := h ▸ mt_lcountB
section
variable {fr : Fr} {Γ Γ' : Gam} {Θ : List Cel} {F F' H H' : Hp} {K : Vp → List Cel → Prop} {Q : VK}
theorem my_countB {Kf : PySem.W.Frag} {xs : List Bool} {x : Bool} (k : K (iz zI (xs.count x : Nat)) Θ) : Mts fr Θ (rCntB Kf) (iz (yL zB) xs) [iz zB x] K := fun F H v vs ok hv hps Q q => by
  obtain ⟨⟨a, us, rfl, h2, h3⟩, _⟩ := hv
  obtain rfl := pvs_B h3
  cases hps with
  | cons h1 hp => cases hp with
    | nil =>
      have h1 : _ = V.bl x := h1
      subst h1
      exact ⟨a, _, x, rfl, rfl, SqL.of (ok.fh _ _ h2), q.go k ok rfl⟩
end
open L2H (RoomH PinOk)
/-- the context of such a def's body -/
def cxE (P : Program) (w : World) (K : PySem.W.Frag) (mg : Str → Option Value) (base : Heap) (N : List Str) (qual : Str) (scope : Scope) (f : Addr) (cd : Value) (A : Around) (outer : List Env) (s : Shared) (H : Hp) (E : XK) (p : Addr × Obj) : Cx :=
  L2H.cxH CX0 P w K mg base N qual scope f cd A outer s H E p
structure DefE (P : Program) (w : World) (K : PySem.W.Frag) (mg : Str → Option Value) (base : Heap) (CX : CXT) (k : Nat) (x : Str) (ps : List Str) (sp : Value → Option Addr → Addr → Sp) : Prop where
  ex : ∃ f fd, LkF K f fd ∧ mg x = some (.ref f) ∧ PySem.W.keepIn K (.ref f) = true ∧ Binds K fd ps [] ∧ (∀ cls d a vs H Q E, sp cls d a vs H Q E → vs.length = ps.length) ∧
    ∀ (A : Around) (outer : List Env) (s : Shared) (H : Hp) (args : Args) (us : List Value) (vs : List V) (Q : VK) (E : XK) (p : Addr × Obj) (cls : Value) (d : Option Addr), RoomH k A → PinOk outer H s p → Zc cls d p.2 → (∃ vs, p.2.data = .fields vs) →
      Env0 P w K mg base A outer s H → BindsTo s fd args (ps.zip us) → Vals vs us → sp cls d p.1 vs H Q E → codeAny (model P w) A (.call (.ref f) args) (CR CX0 outer P w H s Q E) s
theorem DefE.mono {P : Program} {w : World} {K : PySem.W.Frag} {mg : Str → Option Value} {base : Heap} {CX : CXT} {j k : Nat} {x : Str} {ps : List Str} {sp : Value → Option Addr → Addr → Sp} (D : DefE P w K mg base CX j x ps sp) (h : j ≤ k) : DefE P w K mg base CX k x ps sp := by
  obtain ⟨f, fd, h1, h2, h3, h4, h5, h6⟩ := D.ex
  exact ⟨f, fd, h1, h2, h3, h4, h5, fun A outer s H args us vs Q E p cls d hr => h6 A outer s H args us vs Q E p cls d (hr.mono h)⟩
theorem roomE {k : Nat} {A : Around} {o : Option Value} (r : Room k A) : RoomH k (A.mark o) := ⟨r.dp, r.un⟩
section
variable {P : Program} {w : World} {K : PySem.W.Frag} {mg : Str → Option Value} {base : Heap} {qx : Str} {st : Stmt} {N ps : List Str} {k : Nat} {sp : Value → Option Addr → Addr → Sp}
theorem Src.okE (F : Src K mg qx st ps) (S : FnScope N ps (defScope st)) (len : ∀ cls d a vs H Q E, sp cls d a vs H Q E → vs.length = ps.length)
    (hbody : ∀ (f : Addr) (cdv : Value) (A : Around) (outer : List Env) (s : Shared) (H : Hp) (vs : List V) (Q : VK) (E : XK) (a : Addr) (oe : Obj) (cls : Value) (d : Option Addr), Zc cls d oe → (∃ vs, oe.data = .fields vs) → RoomH k (A.deeper (envOfC qx (defScope st) s.heap.objs.size f cdv)) → sp cls d a vs H Q E →
      ∃ t, PSs (cxE P w K mg base N qx (defScope st) f cdv A outer s H E (a, oe)).nox (defBody st) t ∧ t { nx := fun _ H' => Q .non H', rt := Q } (start N vs) H) : DefE P w K mg base CX0 (k + 1) qx ps sp := by
  obtain ⟨f, fd, h1, h2, h3⟩ := F.ex
  refine ⟨f, fd, h1.lk, h2, h1.kp, h3, len, fun A outer s H args us vs Q E p cls d hr hpin hz hf e0 hb r hsp => ?_⟩
  obtain ⟨oc, od, dV, kV, doc, pm, an, cdv, ct, osl, rfl, lk, hcd⟩ := h1.ex
  have hl := len _ _ _ _ _ _ _ hsp
  have KX : K.In s.heap := e0.mod.kin.keeps fun b o e => (e0.bs b o e).1
  have lim : s.heap.NoLimit := e0.mod.nolimit.keeps fun b o e => (e0.bs b o e).1
  have hkind : ∀ y ∈ ps.zip us, (defScope st).names.lookup y.1 = some .local ∨ ((defScope st).names.lookup y.1 = some .cell ∧ ((cellsFrom (s.heap.objs.size + 1) (defScope st).names []).lookup y.1).isSome = true) := fun ⟨n, v⟩ hy => by
    rcases S.par n (List.of_mem_zip hy).1 with q | q
    · exact .inl q
    · exact .inr ⟨q, PySem.W.cellsFrom_some _ _ _ (.inl q)⟩
  refine codeAny_call_function hr.depth (KX _ _ lk) rfl S.co S.gen rfl (PySem.W.codeRec_of KX hcd) (hb _ _ _ _ ?_)
  refine wpAny_newFunctionEnv_cells S.kind hkind fun env he s1 x => ?_
  subst he
  refine ⟨lim.keeps x.toInCall.keep, codeAny_func ?_⟩
  obtain ⟨t, ht, hq⟩ := hbody f cdv A outer s H vs Q E p.1 p.2 cls d hz hf (hr.deeper _) hsp
  have I := L2H.inv_startH (CX := CX0) (E := E) S hpin e0 hl r x
  refine wpAny_mono (ht.nox.run [] s1 (L2.start N vs) H _ I hq) (fun fl s' hs => ?_) fun e s' hs => hs
  have fin : ∀ {σ' : St} {H' : Hp} {v : V} {u : Value}, Inv (cxE P w K mg base N qx (defScope st) f cdv A outer s H E (p.1, p.2)) [] σ' H' s' → RelV v u → Q v H' → CE outer P w H s Q u s' :=
    fun {σ' H' v u} J rv q => ⟨v, H', J.os, J.bare, J.base, J.hok, rv, q⟩
  cases fl with
  | ret u =>
    obtain ⟨v, σ', H', J, rv, q⟩ := hs
    exact fin J rv q
  | next =>
    obtain ⟨σ', H', J, q⟩ := hs
    exact fin (v := V.non) (u := Value.none) J rfl q
  | brk =>
    obtain ⟨_, _, _, q⟩ := hs
    exact False.elim q
  | cont =>
    obtain ⟨_, _, _, q⟩ := hs
    exact False.elim q
end
section
variable {X : Cx} {k : Nat} {ps : List Str} {sp : Value → Option Addr → Addr → Sp} {x : Str} {p pos : Pos} {e : Expr} {es : List Expr} {t : TA}
theorem pe_callE {a : Addr} {oe : Obj} {cls : Value} {d : Option Addr} {pn : List (Addr × Obj)} (D : DefE X.prog X.w X.K X.mg X.base CX0 k x ps sp) (hr : Room k X.A) (hz : Zc cls d oe) (hf : ∃ vs, oe.data = .fields vs)
    (ha : PA (X.suite a ((a, oe) :: pn)) (e :: es) t) (hg : Gl X x := by rfl)
    (hdb : (x == ("__debug__" : Str)) = false := by decide) (he : starEach (e :: es) X.env = (false, eval e X.env) :: starEach es X.env := by rfl) (hpl : (backTo pos (starEach es X.env)).any (·.1) = false := by rfl) :
    PE (X.suite a ((a, oe) :: pn)) (.Call (.Name x p) (e :: es) [] pos) (tCall (sp cls d a) [] (fun _ _ _ => False) t) := by
  obtain ⟨f, fd, hlk, hm, hk, hb, len, run⟩ := D.ex
  refine ⟨fun pins s σ H Q I h => ?_⟩
  refine wpAny_Call_Name_kw (ld_glob (X := X.suite a ((a, oe) :: pn)) I hg hm ?_ hdb)
  refine PySem.W.callWith_K (h₀ := X.base) I.ok.mod.kin hk (thn (ha.run pos pins s σ H _ I h) fun us s1 ⟨vs, H1, I1, r, q⟩ => ⟨I1.kIn, ?_⟩) he hpl
  have q : sp cls d a (vs ++ []) H1 Q (fun _ _ _ => False) := q
  rw [List.append_nil] at q
  have hl : us.length = ps.length := by rw [← r.length]; exact len _ _ _ _ _ _ _ q
  have b := hb s1 us I1.kIn (by rw [List.append_nil]; exact hl)
  rw [List.append_nil] at b
  have P1 := I1.pin (a, oe) (List.mem_append_left _ List.mem_cons_self)
  have hpin : PinOk X.stack H1 s1 (a, oe) := ⟨P1.1, P1.2.1, fun hm => (List.mem_cons.mp (I1.stkSub a hm)).elim P1.2.2.1 P1.2.2.2.1, P1.2.2.2.2⟩
  refine wpAny_call (codeAny_mono (run _ X.stack s1 H1 ⟨us, []⟩ us vs Q _ (a, oe) cls d (roomE hr) hpin hz hf I1.env0 b r q) fun r s' hq => ?_)
  cases r with
  | error e => exact False.elim hq
  | ok fl =>
    cases fl with
    | ret u => exact I1.after hq
    | next => exact False.elim hq
    | brk => exact False.elim hq
    | cont => exact False.elim hq
/-- isinstance(e, c), e the error that the context bears -/
theorem call_isE2 {a : Addr} {oe : Obj} {cls : Value} {d : Option Addr} (hp : (a, oe) ∈ X.pn) (hz : Zc cls d oe) (hf : ∃ vs, oe.data = .fields vs) : CallR X (.builtin "isinstance") (rIsD X.K cls d a) := by
  intro pins s σ H xs us Q I r h
  obtain ⟨D, dd, fs, c, cv, b, rfl, C, rfl, hdd, rfl, hcv, e, q⟩ := h
  cases r with
  | cons rx rr =>
    cases rr with
    | cons rt rr =>
      cases rr
      cases rx
      have ec := hcv _ rt
      subst ec
      obtain ⟨hget, _⟩ := I.pin (a, oe) (List.mem_append.mpr (.inl hp))
      obtain ⟨vs, hv⟩ := hf
      have hx : ObjOk X.prog X.w H s.heap dd (.xd fs) := I.hok dd _ hdd
      obtain ⟨mA, hns, hr⟩ := hx
      obtain ⟨od, ho, hl⟩ := lookIn_ns hns
      have J : PySem.W.InstAt s.heap a oe D (some od) := ⟨hget, hz.1, by unfold PySem.W.notCls; rw [hv] <;> rfl, by rw [hz.2]; exact ho⟩
      have hcl : (PySem.W.clsIn X.K D).isSome = true := by
        obtain ⟨cd, hc, _⟩ := PySem.W.any_some C.hd
        rw [hc]
        rfl
      exact PySem.W.kia_one (PySem.W.kitx_exc hcl C.hg C.hk C.hs C.ha C.hn C.ht C.hm) I.kIn J e (fun z => nomatch z) fun tk => ⟨.bl b, H, I.kept (t' := tk) fun _ _ z => z, rfl, q⟩
theorem kcall_isE {K : PySem.W.Frag} {a : Addr} {oe : Obj} {cls : Value} {d : Option Addr} (hp : (a, oe) ∈ X.pn) (hz : Zc cls d oe) (hf : ∃ vs, oe.data = .fields vs) (h : X.K = K := by rfl) : CallR X (.builtin "isinstance") (rIsD K cls d a) := h ▸ call_isE2 hp hz hf
end
def spE {α β : Type} (C : Addr) (args : α → List Vp) (r : Rep β) (m : α → DM β) : Value → Option Addr → Addr → Sp := fun cls d a => spA fun qs out err => ∃ dd fs x Q, cls = .ref C ∧ d = some dd ∧ qs = zExc a dd fs :: args x ∧ m x Q noX ∧ out = (fun p => ∃ y, Q y ∧ p = iz r y) ∧ err = noErr
section
variable {P : Program} {w : World} {K : PySem.W.Frag} {mg : Str → Option Value} {base : Heap} {x : Str} {st : Stmt} {N ps : List Str} {k : Nat} {α β : Type} {C : Addr} {args : α → List Vp} {r : Rep β} {md : α → DM β}
theorem Src.okEW (F : Src K mg x st ps) (S : FnScope N ps (defScope st)) (len : ∀ x, (args x).length + 1 = ps.length)
    (hbody : ∀ (f : Addr) (cdv : Value) (A : Around) (outer : List Env) (s : Shared) (H : Hp) (E : XK) (ea ed : Addr) (efs : List (Str × Vp)) (oe : Obj) (y : α) (Q : β → Prop), Zc (.ref C) (some ed) oe → (∃ vs, oe.data = .fields vs) → RoomH k (A.deeper (envOfC x (defScope st) s.heap.objs.size f cdv)) → md y Q noX →
      ∃ t, PSs (cxE P w K mg base N x (defScope st) f cdv A outer s H E (ea, oe)).nox (defBody st) t ∧ ∀ fr Qv, RetW fr Qv r Q → Kn fr (envOf N (zExc ea ed efs :: args y)) [] (t ⟨fun _ H' => Qv .non H', Qv, fun _ _ => False, fun _ _ => False⟩)) : DefE P w K mg base CX0 (k + 1) x ps (spE C args r md) := by
  refine F.okE S (fun cls d a vs H Q E h => ?_) (fun f cdv A outer s H vs Q E a oe cls d hz hf hr h => ?_)
  · obtain ⟨F, qs, out, err, _, h2, ⟨dd, fs, x, Q2, _, _, rfl, _⟩, _⟩ := h
    rw [← Paired.len h2, List.length_cons]
    exact len x
  · obtain ⟨F, qs, out, err, h1, h2, ⟨dd, fs, y, Q2, rfl, rfl, rfl, hm, rfl, rfl⟩, h4, h5⟩ := h
    obtain ⟨t, ht, hk⟩ := hbody f cdv A outer s H E a dd fs oe y Q2 hz hf hr hm
    exact ⟨t, ht, hk _ Q (fun z hz Θ => h4.ret _ ⟨z, hz, rfl⟩ Θ) _ F H (OkF.start h1) (env_start h2)⟩
end
section
variable {fr : Fr} {Γ : Gam} {Θ : List Cel} {K : Vp → List Cel → Prop}
theorem sps_E {α β : Type} {C a dd : Addr} {fs : List (Str × Vp)} {args : α → List Vp} {r : Rep β} {m : α → DM β} {E : L2.St → XK} {ps : List Vp} {Q : β → Prop} (x : α) (h : m x Q noX) (k : ∀ y, Q y → K (iz r y) Θ) (e : ps = zExc a dd fs :: args x := by rfl) : Sps fr Γ Θ (spE C args r m (.ref C) (some dd) a) E ps K :=
  sps_A ⟨dd, fs, x, Q, rfl, rfl, e, h, rfl, rfl⟩ (fun p ⟨y, hy, e⟩ => by rw [e]; exact k y hy) fun er he => he.elim
end
def rEqNil (K : PySem.W.Frag) : R2 := fun x y H Q => ∃ p q vs, x = .ref p ∧ y = .ref q ∧ SqL K H p vs ∧ SqL K H q [] ∧ Q (.bl vs.isEmpty) H
theorem op_eqNil {X : Cx} (hu : X.A.units < cLine) : OpR X (compareOp .Eq) (rEqNil X.K) := by
  intro pins s σ H x y v u Q I rx ry h
  obtain ⟨p, q, vs, rfl, rfl, h1, h2, k⟩ := h
  cases rx
  cases ry
  obtain ⟨its, rv, ⟨o1, n1, a1, a2, a3, a4⟩, _⟩ := I.list h1
  obtain ⟨its2, rv2, ⟨o2, n2, b1, b2, b3, b4⟩, _⟩ := I.list h2
  have hl : s.heap.IsList p its.toArray := ⟨o1, a1, a2, n1, a4⟩
  have hl2 : s.heap.IsList q its2.toArray := ⟨o2, b1, b2, n2, b4⟩
  cases rv2
  by_cases e : vs = []
  · subst e
    cases rv
    exact SeqAt.eq_listAt (e := fun _ => true) hl hl2 rfl hu (fun j h1 _ => absurd h1 (by simp)) ⟨.bl true, H, I, rfl, k⟩
  · have hn : its ≠ [] := fun q => by
      subst q
      cases rv
      exact e rfl
    refine SeqAt.eq_list_lengthsAt hl hl2 ?_ hu ⟨.bl false, H, I, rfl, ?_⟩
    · cases its with
      | nil => exact absurd rfl hn
      | cons a b => simp
    · cases vs with
      | nil => exact absurd rfl e
      | cons a b => exact k
theorem kop_eqNil {X : Cx} {K : PySem.W.Frag} (hu : X.A.units < cLine) (h : X.K = K := by rfl) : OpR X (compareOp .Eq) (rEqNil K) := h ▸ op_eqNil hu
theorem oy_eqNil {fr : Fr} {Θ : List Cel} {K : Vp → List Cel → Prop} {Kf : PySem.W.Frag} {α β : Type} {r : Rep α} {s : Rep β} {xs : List α} (k : K (iz zB xs.isEmpty) Θ) : Ops fr Θ (rEqNil Kf) (iz (yL r) xs) (iz (yL s) []) K := fun F H v w ok hv hw Q q => by
  obtain ⟨⟨a, us, rfl, h2, h3⟩, _⟩ := hv
  obtain ⟨⟨b, ws, rfl, g2, g3⟩, _⟩ := hw
  cases g3
  refine ⟨a, b, us, rfl, rfl, SqL.of (ok.fh _ _ h2), SqL.of (ok.fh _ _ g2), q.go k ok ?_⟩
  cases h3 <;> rfl
end L2
set_option Elab.async false
set_option linter.all false
set_option maxRecDepth 100000
set_option maxHeartbeats 4000000
namespace Held
open PySem PySem.Spec PyProof.Rows L2 PySem.HErr
local macro_rules | `(tactic| ac_rfl) => `(tactic| (repeat (first | with_reducible refine kn_seq ?_ | with_reducible refine kn_asg ?_ | with_reducible refine kn_ret ?_ | with_reducible refine kn_next ?_ | with_reducible refine we_op ?_ | with_reducible refine we_un ?_ | with_reducible refine wa_nil ?_ | with_reducible refine wa_cons ?_ | with_reducible refine we_cb ?_ | with_reducible refine we_callE ?_ | with_reducible refine we_callS ?_ | with_reducible refine we_cI ?_ | with_reducible refine we_cB ?_ | with_reducible refine we_cN ?_ | (with_reducible refine is_cS ?_; refine we_cS (asc_of (by decide)) ?_) | (with_reducible refine is_var ?_; refine we_var rfl ?_) | with_reducible refine wt_test ?_ | with_reducible refine wt_b ?_ | with_reducible refine wt_not ?_ | with_reducible refine we_not ?_ | with_reducible refine we_sl ?_ | with_reducible refine wo_none ?_ | with_reducible refine wo_some ?_ | with_reducible refine wt_yes ?_ | with_reducible refine ops_I0 ?_ | with_reducible refine ops_B0 ?_ | with_reducible refine uns_I ?_ | with_reducible refine ops_eqI ?_ | with_reducible refine ops_neI ?_ | with_reducible refine ops_eqS ?_ | with_reducible refine ops_neS ?_ | with_reducible refine ops_eqB ?_ | with_reducible refine ops_neB ?_ | with_reducible refine ops_inS seq_L ?_ | with_reducible refine ops_inS seq_T ?_ | with_reducible refine ops_ninS seq_L ?_ | with_reducible refine ops_ninS seq_T ?_ | with_reducible refine ops_inI seq_L ?_ | with_reducible refine ops_inI seq_T ?_ | with_reducible refine ops_ix20 ?_ | with_reducible refine ops_ix21 ?_ | with_reducible refine ops_ix30 ?_ | with_reducible refine ops_ix31 ?_ | with_reducible refine ops_ix32 ?_ | with_reducible refine cb_len seq_L ?_ | with_reducible refine cb_len seq_T ?_ | with_reducible refine cb_list seq_L ?_ | with_reducible refine cb_list seq_T ?_ | with_reducible refine cb_tupleL ?_ | with_reducible refine cb_tupleT ?_ | with_reducible refine cb_any ?_ | with_reducible refine cb_all ?_ | with_reducible refine cb_sum ?_ | with_reducible refine cb_int ?_ | with_reducible refine cb_abs ?_ | with_reducible refine we_fld ?_ | with_reducible refine we_dget ?_ | with_reducible refine we_din ?_ | with_reducible refine we_dnin ?_ | with_reducible refine we_met ?_ | with_reducible refine wi_list ?_ | with_reducible refine wi_tup ?_ | with_reducible refine wi_range ?_ | with_reducible refine wi_range2 ?_ | with_reducible refine kn_if ?_ | with_reducible refine kn_raise ?_ | with_reducible refine ⟨_, fldP_taken (by assumption), ?_⟩ | with_reducible refine ⟨_, fldP_given (by assumption), ?_⟩ | with_reducible refine ⟨_, fldP_places (by assumption), ?_⟩ | with_reducible refine ⟨_, fldP_begin (by assumption), ?_⟩ | with_reducible refine ⟨_, fldP_steps (by assumption), ?_⟩ | with_reducible refine ⟨_, _, _, _, dic_D, rfl, ?_⟩ | refine ⟨ins_plan rfl, ?_⟩ | with_reducible refine we_mk ?_ | with_reducible refine we_cT ?_ | with_reducible refine we_cR ?_ | with_reducible refine ops_isO ?_ | with_reducible refine ops_notO ?_ | with_reducible refine ops_isX ?_ | with_reducible refine ops_notX ?_ | with_reducible refine ops_isN ?_ | with_reducible refine ops_notN ?_ | with_reducible refine ops_eqD (by decide) ?_ | with_reducible refine ops_neD (by decide) ?_ | with_reducible apply wt_and | with_reducible apply wt_or | with_reducible refine im_t (fun _ => ?_) | with_reducible refine im_f (fun _ => ?_) | with_reducible refine im_tv (fun _ => ?_) | with_reducible refine im_fv (fun _ => ?_) | with_reducible refine cb_isi ty_L kit_ll ?_ | with_reducible refine cb_isi ty_T kit_tt ?_ | with_reducible refine cb_isi ty_2 kit_tt ?_ | with_reducible refine cb_isi ty_I kit_ii ?_ | with_reducible refine cb_isi ty_I kit_ib ?_ | with_reducible refine cb_isi ty_B kit_bb ?_ | with_reducible refine cb_isi ty_S kit_ss ?_ | exact ⟨rfl, rfl⟩ | with_reducible refine ⟨_, rfl, ?_⟩ | refine ⟨_, _, _, rfl, ?_⟩ | refine ⟨_, _, _, _, rfl, ?_⟩)))
local macro_rules | `(tactic| bv_omega) => `(tactic| (first | with_reducible refine kn_seq ?_ | with_reducible refine kn_asg ?_ | with_reducible refine kn_ret ?_ | with_reducible refine kn_next ?_ | with_reducible refine we_op ?_ | with_reducible refine we_un ?_ | with_reducible refine wa_nil ?_ | with_reducible refine wa_cons ?_ | with_reducible refine we_cb ?_ | with_reducible refine we_callE ?_ | with_reducible refine we_callS ?_ | with_reducible refine we_cI ?_ | with_reducible refine we_cB ?_ | with_reducible refine we_cN ?_ | (with_reducible refine is_cS ?_; refine we_cS (asc_of (by decide)) ?_) | (with_reducible refine is_var ?_; refine we_var rfl ?_) | with_reducible refine wt_test ?_ | with_reducible refine wt_b ?_ | with_reducible refine wt_not ?_ | with_reducible refine we_not ?_ | with_reducible refine we_sl ?_ | with_reducible refine wo_none ?_ | with_reducible refine wo_some ?_ | with_reducible refine wt_yes ?_ | with_reducible refine ops_I0 ?_ | with_reducible refine ops_B0 ?_ | with_reducible refine uns_I ?_ | with_reducible refine ops_eqI ?_ | with_reducible refine ops_neI ?_ | with_reducible refine ops_eqS ?_ | with_reducible refine ops_neS ?_ | with_reducible refine ops_eqB ?_ | with_reducible refine ops_neB ?_ | with_reducible refine ops_inS seq_L ?_ | with_reducible refine ops_inS seq_T ?_ | with_reducible refine ops_ninS seq_L ?_ | with_reducible refine ops_ninS seq_T ?_ | with_reducible refine ops_inI seq_L ?_ | with_reducible refine ops_inI seq_T ?_ | with_reducible refine ops_ix20 ?_ | with_reducible refine ops_ix21 ?_ | with_reducible refine ops_ix30 ?_ | with_reducible refine ops_ix31 ?_ | with_reducible refine ops_ix32 ?_ | with_reducible refine cb_len seq_L ?_ | with_reducible refine cb_len seq_T ?_ | with_reducible refine cb_list seq_L ?_ | with_reducible refine cb_list seq_T ?_ | with_reducible refine cb_tupleL ?_ | with_reducible refine cb_tupleT ?_ | with_reducible refine cb_any ?_ | with_reducible refine cb_all ?_ | with_reducible refine cb_sum ?_ | with_reducible refine cb_int ?_ | with_reducible refine cb_abs ?_ | with_reducible refine we_fld ?_ | with_reducible refine we_dget ?_ | with_reducible refine we_din ?_ | with_reducible refine we_dnin ?_ | with_reducible refine we_met ?_ | with_reducible refine wi_list ?_ | with_reducible refine wi_tup ?_ | with_reducible refine wi_range ?_ | with_reducible refine wi_range2 ?_ | with_reducible refine kn_if ?_ | with_reducible refine kn_raise ?_ | with_reducible refine ⟨_, fldP_taken (by assumption), ?_⟩ | with_reducible refine ⟨_, fldP_given (by assumption), ?_⟩ | with_reducible refine ⟨_, fldP_places (by assumption), ?_⟩ | with_reducible refine ⟨_, fldP_begin (by assumption), ?_⟩ | with_reducible refine ⟨_, fldP_steps (by assumption), ?_⟩ | with_reducible refine ⟨_, _, _, _, dic_D, rfl, ?_⟩ | refine ⟨ins_plan rfl, ?_⟩ | with_reducible refine we_mk ?_ | with_reducible refine we_cT ?_ | with_reducible refine we_cR ?_ | with_reducible refine ops_isO ?_ | with_reducible refine ops_notO ?_ | with_reducible refine ops_isX ?_ | with_reducible refine ops_notX ?_ | with_reducible refine ops_isN ?_ | with_reducible refine ops_notN ?_ | with_reducible refine ops_eqD (by decide) ?_ | with_reducible refine ops_neD (by decide) ?_ | with_reducible apply wt_and | with_reducible apply wt_or | with_reducible refine im_t (fun _ => ?_) | with_reducible refine im_f (fun _ => ?_) | with_reducible refine im_tv (fun _ => ?_) | with_reducible refine im_fv (fun _ => ?_) | with_reducible refine cb_isi ty_L kit_ll ?_ | with_reducible refine cb_isi ty_T kit_tt ?_ | with_reducible refine cb_isi ty_2 kit_tt ?_ | with_reducible refine cb_isi ty_I kit_ii ?_ | with_reducible refine cb_isi ty_I kit_ib ?_ | with_reducible refine cb_isi ty_B kit_bb ?_ | with_reducible refine cb_isi ty_S kit_ss ?_ | exact ⟨rfl, rfl⟩ | with_reducible refine ⟨_, rfl, ?_⟩ | refine ⟨_, _, _, rfl, ?_⟩ | refine ⟨_, _, _, _, rfl, ?_⟩))
local macro_rules | `(tactic| nofun) => `(tactic| (repeat (first | with_reducible refine kn_seq ?_ | with_reducible refine kn_asg ?_ | with_reducible refine kn_ret ?_ | with_reducible refine kn_next ?_ | with_reducible refine we_op ?_ | with_reducible refine we_un ?_ | with_reducible refine wa_nil ?_ | with_reducible refine wa_cons ?_ | with_reducible refine we_cb ?_ | with_reducible refine we_callE ?_ | with_reducible refine we_callS ?_ | with_reducible refine we_cI ?_ | with_reducible refine we_cB ?_ | with_reducible refine we_cN ?_ | (with_reducible refine is_cS ?_; refine we_cS (asc_of (by decide)) ?_) | (with_reducible refine is_var ?_; first | refine we_varB rfl ?_ | refine we_varP (by assumption) rfl ?_ | refine we_var rfl ?_) | with_reducible refine wt_test ?_ | with_reducible refine wt_b ?_ | with_reducible refine wt_not ?_ | with_reducible refine we_not ?_ | with_reducible refine we_sl ?_ | with_reducible refine wo_none ?_ | with_reducible refine wo_some ?_ | with_reducible refine wt_yes ?_ | with_reducible refine ops_I0 ?_ | with_reducible refine ops_B0 ?_ | with_reducible refine uns_I ?_ | with_reducible refine ops_eqI ?_ | with_reducible refine ops_neI ?_ | with_reducible refine ops_eqS ?_ | with_reducible refine ops_neS ?_ | with_reducible refine ops_eqB ?_ | with_reducible refine ops_neB ?_ | with_reducible refine ops_inS seq_L ?_ | with_reducible refine ops_inS seq_T ?_ | with_reducible refine ops_ninS seq_L ?_ | with_reducible refine ops_ninS seq_T ?_ | with_reducible refine ops_inI seq_L ?_ | with_reducible refine ops_inI seq_T ?_ | with_reducible refine ops_ix20 ?_ | with_reducible refine ops_ix21 ?_ | with_reducible refine ops_ix30 ?_ | with_reducible refine ops_ix31 ?_ | with_reducible refine ops_ix32 ?_ | with_reducible refine cb_len seq_L ?_ | with_reducible refine cb_len seq_T ?_ | with_reducible refine cb_list seq_L ?_ | with_reducible refine cb_list seq_T ?_ | with_reducible refine cb_tupleL ?_ | with_reducible refine cb_tupleT ?_ | with_reducible refine cb_any ?_ | with_reducible refine cb_all ?_ | with_reducible refine cb_sum ?_ | with_reducible refine cb_int ?_ | with_reducible refine cb_abs ?_ | with_reducible refine we_fld ?_ | with_reducible refine we_dget ?_ | with_reducible refine we_din ?_ | with_reducible refine we_dnin ?_ | with_reducible refine we_met ?_ | with_reducible refine wi_list ?_ | with_reducible refine wi_tup ?_ | with_reducible refine wi_range ?_ | with_reducible refine wi_range2 ?_ | with_reducible refine kn_if ?_ | with_reducible refine kn_raise ?_ | with_reducible refine ⟨_, fldP_taken (by assumption), ?_⟩ | with_reducible refine ⟨_, fldP_given (by assumption), ?_⟩ | with_reducible refine ⟨_, fldP_places (by assumption), ?_⟩ | with_reducible refine ⟨_, fldP_begin (by assumption), ?_⟩ | with_reducible refine ⟨_, fldP_steps (by assumption), ?_⟩ | with_reducible refine ⟨_, _, _, _, dic_D, rfl, ?_⟩ | refine ⟨ins_plan rfl, ?_⟩ | with_reducible refine we_mk ?_ | with_reducible refine we_cT ?_ | with_reducible refine we_cR ?_ | with_reducible refine ops_isO ?_ | with_reducible refine ops_notO ?_ | with_reducible refine ops_isX ?_ | with_reducible refine ops_notX ?_ | with_reducible refine ops_isN ?_ | with_reducible refine ops_notN ?_ | with_reducible refine ops_eqD (by decide) ?_ | with_reducible refine ops_neD (by decide) ?_ | with_reducible apply wt_and | with_reducible apply wt_or | with_reducible refine im_t (fun _ => ?_) | with_reducible refine im_f (fun _ => ?_) | with_reducible refine im_tv (fun _ => ?_) | with_reducible refine im_fv (fun _ => ?_) | with_reducible refine cb_isi ty_L kit_ll ?_ | with_reducible refine cb_isi ty_T kit_tt ?_ | with_reducible refine cb_isi ty_2 kit_tt ?_ | with_reducible refine cb_isi ty_I kit_ii ?_ | with_reducible refine cb_isi ty_I kit_ib ?_ | with_reducible refine cb_isi ty_B kit_bb ?_ | with_reducible refine cb_isi ty_S kit_ss ?_ | exact ⟨rfl, rfl⟩ | with_reducible refine ⟨_, rfl, ?_⟩ | refine ⟨_, _, _, rfl, ?_⟩ | refine ⟨_, _, _, _, rfl, ?_⟩)))
local macro_rules | `(tactic| and_intros) => `(tactic| (repeat (first | exact .nil | refine .cons (.inr rfl) ?_ | refine .cons (.inl rfl) ?_)))
local macro_rules | `(tactic| subst_vars) => `(tactic| (try dsimp only [List.set, List.eraseIdx, L2.envOf, List.map, Option.map]))
def topS (i : Nat) : Stmt := PySem.Challenge.pw_heldsteps_k68_stretch_and_twin_build.main.body.getD i (.Pass ⟨0, 0, 0, 0⟩)
section
variable {P : Program} {w : World} {K : PySem.W.Frag} {mg : Str → Option Value} {base : Heap}
def m_draw (m : Int) : DM Int := fun Q _ => drawD m Q
theorem fmod_box {x m : Int} (h : 0 < m) : 0 ≤ x.fmod m ∧ x.fmod m < m := ⟨Int.fmod_nonneg_of_pos _ h, Int.fmod_lt_of_pos _ h⟩
theorem big200 {m : Int} (h0 : 0 < m) (h : m ≤ 10 ^ 40) : m.natAbs < 2 ^ 200 := by
  have e : (10 : Int) ^ 40 < 2 ^ 200 := by decide
  have e2 : ((2 ^ 200 : Nat) : Int) = 2 ^ 200 := by decide
  omega
theorem lim210 {i : Int} {n : Nat} (h0 : 0 ≤ i) (h : i ≤ (n : Int)) (hn : n ≤ LIM) : i.natAbs < 2 ^ 210 := by
  have e : LIM < 2 ^ 210 := by decide
  omega
abbrev s__law_box : Stmt := topS 30
theorem sc__law_box : FnScope ["_law_script"] ["_law_script"] (defScope s__law_box) := ⟨rfl, rfl, rfl, by decide +kernel, rfl, by decide +kernel, by decide +kernel⟩
theorem ok__law_box {k : Nat} (B : Bl mg) (F : Src K mg "_law_box" s__law_box ["_law_script"]) : Def P w K mg base CX0 (k + 1) "_law_box" ["_law_script"] (spN (preBagC K)) := by
  refine F.okN sc__law_box (fun qs out err ⟨_, h, _⟩ => by rw [h]; rfl) (fun f cdv A outer s H E qs out err hr ⟨ns, e1, e2, e3⟩ => ?_)
  subst e1 e2 e3
  refine ⟨_, (pss_one (ps_ret (pe_lst (pa_cons (pe_callTy (kcall_list (K := K)) (by rfl) B.list' (by decide +kernel) (pa_cons (pe_slice (ksl_list (K := K)) (pv 0) po_none (po_some pe_int)) pa_nil)) (pa_cons pe_int (pa_cons pe_int (pa_cons pe_int pa_nil))))))), fun fr Q hret => ?_⟩
  refine kn_ret (we_bagC (wa_cons (we_cb (wa_cons (we_sl (we_var rfl (wo_none (wo_some (we_cI ⟨_, rfl, sy_slScr (wa_nil (cy_list sy_L ?_))⟩)))))))))
  refine wa_cons (we_cI (wa_cons (we_cI (wa_cons (we_cI (wa_nil ⟨_, 0, 7, rfl, fun b l => ?_⟩))))))
  exact hret _ _ ⟨b, l, rfl, rfl⟩ (fun c hc => by rw [List.mem_singleton.mp hc]; rfl) _ [] (by simp)
abbrev s__law_draw : Stmt := topS 31
theorem sc__law_draw : FnScope ["_law_box_here", "_law_limit", "_law_cell", "_law_value"] ["_law_box_here", "_law_limit"] (defScope s__law_draw) := ⟨rfl, rfl, rfl, by decide +kernel, rfl, by decide +kernel, by decide +kernel⟩
theorem ok__law_draw {k : Nat} (B : Bl mg) (F : Src K mg "_law_draw" s__law_draw ["_law_box_here", "_law_limit"]) : Def P w K mg base CX0 (k + 1) "_law_draw" ["_law_box_here", "_law_limit"] (spC (preKN 1 (preBW (fun x : Int => [iz zI x]) zI m_draw))) := by
  refine F.okKN sc__law_draw (fun _ => rfl) (fun f cdv A outer s H E b l N m Q hN hr h => ⟨_, (C8.pss_cut (ps_if (pt_cmpR op_eq (pe_ix (kix_list (K := K)) (pv 0) pe_int (fun _ _ => rfl)) pe_int (nomark _)) (pss_cons (ps_asg pe_int (pg_name (i := 2) sc__law_draw.nd rfl (Or.inl rfl)))
 (C8.pss_cut (ps_if (pt_cmpR op_lt (pe_ix (kix_list (K := K)) (pv 0) pe_int (fun _ _ => rfl)) (pe_callB (kcall_len (K := K)) (by rfl) B.len PySem.boot_len (pa_cons (pe_ix (kix_list (K := K)) (pv 0) pe_int (fun _ _ => rfl)) pa_nil)) (nomark _)) (pss_one (ps_asg (pe_callB call_abs (by rfl) B.abs (by decide +kernel) (pa_cons (pe_callTy call_int1 (by rfl) B.int' (by decide +kernel) (pa_cons (pe_ix (kix_list (K := K)) (pe_ix (kix_list (K := K)) (pv 0) pe_int (fun _ _ => rfl)) (pe_ix (kix_list (K := K)) (pv 0) pe_int (fun _ _ => rfl)) (fun _ _ => rfl)) pa_nil)) pa_nil)) (pg_name (i := 2) sc__law_draw.nd rfl (Or.inl rfl)))) pss_nil)
 (pss_cons (ps_asg (pe_op op_add (pe_ix (kix_list (K := K)) (pv 0) pe_int (fun _ _ => rfl)) pe_int) (pg_sub (pv 0) pe_int set_list))
 (pss_cons (ps_if (pt_cmpR op_lt (pv 2) (pe_op op_pow pe_int pe_int) (nomark _)) (pss_cons (ps_asg (pe_op op_modN (pe_op op_add (pe_op op_add (pe_op op_mul (pe_callTy call_int1 (by rfl) B.int' (by decide +kernel) (pa_cons (pe_ix (kix_list (K := K)) (pv 0) pe_int (fun _ _ => rfl)) pa_nil)) pe_int) (pe_op op_mul (pe_op op_modN (pe_callTy call_int1 (by rfl) B.int' (by decide +kernel) (pa_cons (pv 2) pa_nil)) pe_int) pe_int)) (pe_op op_mul (pe_callTy call_int1 (by rfl) B.int' (by decide +kernel) (pa_cons (pe_ix (kix_list (K := K)) (pv 0) pe_int (fun _ _ => rfl)) pa_nil)) pe_int)) pe_int) (pg_sub (pv 0) pe_int set_list))
 (pss_one (ps_ret (pe_op op_modN (pe_op op_fdivN (pe_op op_add (pe_op op_mul (pe_callTy call_int1 (by rfl) B.int' (by decide +kernel) (pa_cons (pe_ix (kix_list (K := K)) (pv 0) pe_int (fun _ _ => rfl)) pa_nil)) pe_int) (pe_op op_mulW (pe_callTy call_int1 (by rfl) B.int' (by decide +kernel) (pa_cons (pe_ix (kix_list (K := K)) (pv 0) pe_int (fun _ _ => rfl)) pa_nil)) (pe_callTy call_int1 (by rfl) B.int' (by decide +kernel) (pa_cons (pe_ix (kix_list (K := K)) (pv 0) pe_int (fun _ _ => rfl)) pa_nil)))) pe_int) (pv 1))))) pss_nil)
 (pss_one (ps_asg (pv 2) (pg_sub (pv 0) pe_int set_list))))))) pss_nil)
 (pss_cons (ps_asg (pe_op op_modN (pe_callTy call_int1 (by rfl) B.int' (by decide +kernel) (pa_cons (pe_ix (kix_list (K := K)) (pv 0) pe_int (fun _ _ => rfl)) pa_nil)) (pv 1)) (pg_name (i := 3) sc__law_draw.nd rfl (Or.inl rfl)))
 (pss_cons (ps_asg (pe_op op_fdivW (pe_ix (kix_list (K := K)) (pv 0) pe_int (fun _ _ => rfl)) (pv 1)) (pg_sub (pv 0) pe_int set_list))
 (pss_one (ps_ret (pv 3)))))), fun fr Qv hret => ?_⟩)
  obtain ⟨m0, m1, h⟩ := h
  refine kn_bagC (j := 0) rfl fun ns i c r h0 h1 => ?_
  try dsimp only
  have fin : ∀ {fr' : L2.Fr} {i c r : Int} {v : Int}, FrLe fr fr' → 0 ≤ i → i ≤ ((N + 1 : Nat) : Int) → 0 ≤ v → v < m → Rt fr' [cBg b l ns [i, c, r]] Qv (iz zI v) := fun {fr' i c r v} le g1 g2 h3 h4 => rt_bagC (j := 0) rfl g1 g2 ((hret.fine le) _ (h v h3 h4) _ _ (Nat.le_refl _) (.head _))
  have le0 : FrLe fr fr := ⟨rfl, rfl, Same.refl _, fun a o h => .inl ⟨o, h⟩⟩
  refine kn_cut (fun Γ Θ => ∃ i c r : Int, 0 ≤ i ∧ i ≤ ((N + 1 : Nat) : Int) ∧ Γ = [some (zAt b), some (iz zI m), none, none] ∧ Θ = [cBg b l ns [i, c, r]]) ?_ ?_
  · refine kn_if (wt_test (we_op (we_op (we_var rfl (we_cI (ob_ix (j := 0) (m := 1) rfl rfl rfl (we_cI (ops_eqI ⟨_, rfl, ⟨fun hc => ?_, fun hc => ?_⟩⟩))))))))
    · refine kn_seq (kn_asg (we_cI ?_))
      try dsimp only
      refine kn_cut (fun Γ Θ => ∃ cell : Int, Γ = [some (zAt b), some (iz zI m), some (iz zI cell), none] ∧ Θ = [cBg b l ns [i, c, r]]) ?_ ?_
      · refine kn_if (wt_test (we_op (we_op (we_var rfl (we_cI (ob_ix (j := 0) (m := 0) rfl rfl rfl (we_cb (wa_cons (we_op (we_var rfl (we_cI (ob_ix0 (j := 0) rfl (wa_nil (cy_len sy_L fun e => ops_B0 ⟨_, rfl, ⟨fun hd => ?_, fun hd => ?_⟩⟩))))))))))))))
        · have hd := of_decide_eq_true hd
          obtain ⟨j, rfl⟩ : ∃ j : Nat, i = j := ⟨i.toNat, by omega⟩
          have hj : j < ns.length := by omega
          refine kn_asg (we_cb (wa_cons (we_cb (wa_cons (we_op (we_op (we_var rfl (we_cI (ob_ix0 (j := 0) rfl (we_op (we_var rfl (we_cI (ob_ix (j := 0) (m := 0) rfl rfl rfl (oy_ixL (atI_nat (List.getElem?_eq_getElem hj)) (wa_nil (cb_int (wa_nil (cb_abs ?_))))))))))))))))))
          exact kn_mid ⟨_, by and_intros, _, rfl, rfl⟩
        · refine kn_next ?_
          exact kn_mid ⟨_, by and_intros, _, rfl, rfl⟩
      · rintro Γ Θ ⟨cell, rfl, rfl⟩
        refine kn_seq (kb_set (i := 0) (m := 0) (j := 0) rfl (we_op (we_op (we_var rfl (we_cI (ob_ix (j := 0) (m := 0) rfl rfl rfl (we_cI (ops_I0 (we_cI ⟨_, _, rfl, rfl, rfl, by simp, rfl, ?_⟩)))))))))
        try dsimp only
        refine kn_seq (kn_if (wt_test (we_op (we_var rfl (we_op (we_cI (we_cI (ops_IC ⟨by decide, by decide, by decide⟩ (ops_B0 ⟨_, rfl, ⟨fun _ => ?_, fun _ => ?_⟩⟩)))))))))
        · refine kn_seq (kb_set (l := l) (ns := ns) (is := [i + 1, c, r]) (i := 0) (m := 2) (j := 0) rfl ?_)
          refine we_op (we_op (we_op (we_op (we_cb (wa_cons (we_op (we_var rfl (we_cI (ob_ix (j := 0) (m := 2) rfl rfl rfl (wa_nil (cb_int (we_cI (ops_IC (.inr ⟨by decide, by decide⟩) ?_)))))))))))))
          refine we_op (we_op (we_cb (wa_cons (we_var rfl (wa_nil (cb_int (we_cI (ops_IC (C := fun _ j => j ≠ 0) (by decide) (we_cI (ops_IC (.inr ⟨by decide, by decide⟩) (ops_I0 ?_)))))))))))
          refine we_op (we_cb (wa_cons (we_op (we_var rfl (we_cI (ob_ix (j := 0) (m := 0) rfl rfl rfl (wa_nil (cb_int (we_cI (ops_IC (.inr ⟨by decide, by decide⟩) (ops_I0 ?_)))))))))))
          refine we_cI (ops_IC (C := fun _ j => j ≠ 0) (by decide) (we_cI ⟨_, _, rfl, rfl, rfl, by simp, rfl, ?_⟩))
          try dsimp only
          refine kn_ret (we_op (we_op (we_op (we_op (we_cb (wa_cons (we_op (we_var rfl (we_cI (ob_ix (j := 0) (m := 2) rfl rfl rfl (wa_nil (cb_int (we_cI (ops_IC (.inr ⟨by decide, by decide⟩) ?_))))))))))))))
          refine we_op (we_cb (wa_cons (we_op (we_var rfl (we_cI (ob_ix (j := 0) (m := 0) rfl rfl rfl (wa_nil (cb_int ?_))))))))
          refine we_cb (wa_cons (we_op (we_var rfl (we_cI (ob_ix (j := 0) (m := 0) rfl rfl rfl (wa_nil (cb_int ?_)))))))
          have hi2 : (i + 1).natAbs < 2 ^ 210 := lim210 (n := N + 1) (by omega) (by omega) hN
          refine ops_IC (wide_mul hi2 hi2 (by decide) (by decide) (by decide)) (ops_I0 ?_)
          refine we_cI (ops_IC ⟨by decide, by decide⟩ (we_var rfl (ops_IC (C := fun _ j => j ≠ 0) (by omega) ?_)))
          exact fin le0 (by omega) (by omega) (fmod_box m0).1 (fmod_box m0).2
        · refine kn_next ?_
          try dsimp only
          refine kb_set (i := 0) (m := 1) (j := 0) rfl (we_var rfl (we_cI ⟨_, _, rfl, rfl, rfl, by simp, rfl, ?_⟩))
          exact kn_mid ⟨_, by and_intros, _, _, _, by omega, by omega, rfl, rfl⟩
    · refine kn_next ?_
      exact kn_mid ⟨_, by and_intros, i, c, r, h0, by omega, rfl, rfl⟩
  · rintro Γ Θ ⟨i, c, r, h0, h1, rfl, rfl⟩
    refine kn_seq (kn_asg (we_op (we_cb (wa_cons (we_op (we_var rfl (we_cI (ob_ix (j := 0) (m := 1) rfl rfl rfl (wa_nil (cb_int (we_var rfl (ops_IC (C := fun _ j => j ≠ 0) (by omega) ?_))))))))))))
    try dsimp only
    refine kn_seq (kb_set (i := 0) (m := 1) (j := 0) rfl (we_op (we_op (we_var rfl (we_cI (ob_ix (j := 0) (m := 1) rfl rfl rfl (we_var rfl (ops_IC (wide_div (b := 200) m0 (big200 m0 m1) (by decide) (by decide)) (we_cI ⟨_, _, rfl, rfl, rfl, by simp, rfl, ?_⟩)))))))))
    try dsimp only
    refine kn_ret (we_var rfl ?_)
    have fb := fmod_box (x := c) m0
    exact fin le0 h0 h1 fb.1 fb.2
end
section
variable {P : Program} {w : World} {K : PySem.W.Frag} {mg : Str → Option Value} {base : Heap}
abbrev s__law_word : Stmt := topS 32
theorem sc__law_word : FnScope ["_law_box_here", "_law_number", "_law_size", "_law_word_here", "_law_k"] ["_law_box_here"] (defScope s__law_word) := ⟨rfl, rfl, rfl, by decide +kernel, rfl, by decide +kernel, by decide +kernel⟩
def m__law_word  : DM Str := fun Q X =>
  CMul (12 : Int) (26 : Int) ∧
  CPow (36 : Int) (11 : Int) ∧
  CMul ((12 : Int) * (26 : Int)) ((36 : Int) ^ ((11 : Int)).toNat) ∧
  m_draw (((12 : Int) * (26 : Int)) * ((36 : Int) ^ ((11 : Int)).toNat)) (fun v4 =>
  ∀ size5, size5 = (Int.fmod v4 (12 : Int)) →
  CDivN v4 (12 : Int) ∧
  ∀ number7, number7 = (Int.fdiv v4 (12 : Int)) →
  ∃ v8, atI (("abcdefghijklmnopqrstuvwxyz" : Str)).cps.toList (Int.fmod number7 (26 : Int)) = some v8 ∧
  ∀ word9, word9 = (⟨#[v8]⟩ : Str) →
  CDivN number7 (26 : Int) ∧
  ∀ number11, number11 = (Int.fdiv number7 (26 : Int)) →
  (-100000 ≤ size5 ∧ size5 ≤ 100000) ∧
  forD (intsF 0 (size5).toNat) (number11, word9) (fun x13 s12 nx bk =>
  ∃ v15, atI (("abcdefghijklmnopqrstuvwxyz0123456789" : Str)).cps.toList (Int.fmod s12.1 (36 : Int)) = some v15 ∧
  (s12.2).length + ((⟨#[v15]⟩ : Str)).length ≤ big ∧
  ∀ word17, word17 = (s12.2 ++ (⟨#[v15]⟩ : Str)) →
  CDivN s12.1 (36 : Int) ∧
  ∀ number19, number19 = (Int.fdiv s12.1 (36 : Int)) →
  nx (number19, word17)) (fun s12 =>
  Q s12.2)) noX
theorem ok__law_word {k : Nat} {cs : EK → Addr} (B : Bl mg) (D__law_draw : Def P w K mg base CX0 k "_law_draw" ["_law_box_here", "_law_limit"] (spC (preKN 1 (preBW (fun x : Int => [iz zI x]) zI m_draw))))
    (F : Src K mg "_law_word" s__law_word ["_law_box_here"]) : Def P w K mg base CX0 (k + 1) "_law_word" ["_law_box_here"] (spC (preKN 1 (preBW (fun x : Unit => []) yS (fun x => m__law_word)))) := by
  refine F.okKN sc__law_word (fun _ => rfl) (fun f cdv A outer s H E b l n x Q hN hr h => ⟨_, (pss_cons (ps_asg (pe_def D__law_draw hr pass0 (pa_cons (pv 0) (pa_cons (pe_op op_mul (pe_op op_mul pe_int pe_int) (pe_op op_pow pe_int pe_int)) pa_nil))) (pg_name (i := 1) sc__law_word.nd rfl (Or.inl rfl)))
 (pss_cons (ps_asg (pe_op op_modN (pv 1) pe_int) (pg_name (i := 2) sc__law_word.nd rfl (Or.inl rfl)))
 (pss_cons (ps_asg (pe_op op_fdivN (pv 1) pe_int) (pg_name (i := 1) sc__law_word.nd rfl (Or.inl rfl)))
 (pss_cons (ps_asg (pe_ix ix_str pe_str (pe_op op_modN (pv 1) pe_int) (fun _ _ => rfl)) (pg_name (i := 3) sc__law_word.nd rfl (Or.inl rfl)))
 (pss_cons (ps_asg (pe_op op_fdivN (pv 1) pe_int) (pg_name (i := 1) sc__law_word.nd rfl (Or.inl rfl)))
 (pss_cons (ps_for PassesOwn.never rfl (pi_range1 (by rfl) B.range (pa_cons (pv 2) pa_nil)) (pg_name (i := 4) sc__law_word.nd rfl (Or.inl rfl)) (pss_cons (ps_asg (pe_op op_add_str (pv 3) (pe_ix ix_str pe_str (pe_op op_modN (pe_callTy call_int1 (by rfl) B.int' (by decide +kernel) (pa_cons (pv 1) pa_nil)) pe_int) (fun _ _ => rfl))) (pg_name (i := 3) sc__law_word.nd rfl (Or.inl rfl)))
 (pss_one (ps_asg (pe_op op_fdivN (pv 1) pe_int) (pg_name (i := 1) sc__law_word.nd rfl (Or.inl rfl))))))
 (pss_one (ps_ret (pv 3))))))))), fun fr Qv hret => ?_⟩)
  replace h : m__law_word Q noX := h
  unfold m__law_word at h
  refine kn_seq (kn_asg (i := 1) (we_callE (wa_cons (we_var rfl (wa_cons (we_op (we_op (we_cI (we_cI ?_)))))))))
  obtain ⟨g1, h⟩ := h
  refine ops_IC g1 (we_op (we_cI (we_cI ?_)))
  obtain ⟨g2, h⟩ := h
  refine ops_IC g2 ?_
  obtain ⟨g3, h⟩ := h
  refine ops_IC g3 (wa_nil ?_)
  refine sps_KN (j := 0) rfl (by have hb : big = 100000 := rfl; omega) (((12 : Int) * (26 : Int)) * ((36 : Int) ^ ((11 : Int)).toNat)) h (fun v4 h => ?_)
  try dsimp only [List.set]
  refine kn_nrm (Γ' := [some (zAt b), some (iz zI v4), none, none, none]) rfl ?_
  try dsimp only
  refine kn_seq (kn_asgL (i := 2) (r := zI) (we_op (we_var rfl (we_cI (ops_IC (C := fun _ j => j ≠ 0) (by decide) (⟨_, rfl, fun size5 esize5 => ?_⟩))))))
  have h := h size5 esize5
  refine kn_nrm (Γ' := [some (zAt b), some (iz zI v4), some (iz zI size5), none, none]) rfl ?_
  try dsimp only
  refine kn_seq (kn_asgL (i := 1) (r := zI) (we_op (we_var rfl (we_cI ?_))))
  obtain ⟨g6, h⟩ := h
  refine ops_IC g6 (⟨_, rfl, fun number7 enumber7 => ?_⟩)
  have h := h number7 enumber7
  refine kn_nrm (Γ' := [some (zAt b), some (iz zI number7), some (iz zI size5), none, none]) rfl ?_
  try dsimp only
  refine kn_seq (kn_asgL (i := 3) (r := yS) (we_op (we_cSy (z := "abcdefghijklmnopqrstuvwxyz") (asc_of (by decide)) (by decide) (we_op (we_var rfl (we_cI (ops_IC (C := fun _ j => j ≠ 0) (by decide) ?_)))))))
  obtain ⟨v8, ev8, h⟩ := h
  refine oy_ixS ev8 (⟨_, rfl, fun word9 eword9 => ?_⟩)
  have h := h word9 eword9
  refine kn_nrm (Γ' := [some (zAt b), some (iz zI number7), some (iz zI size5), some (iz yS word9), none]) rfl ?_
  try dsimp only
  refine kn_seq (kn_asgL (i := 1) (r := zI) (we_op (we_var rfl (we_cI ?_))))
  obtain ⟨g10, h⟩ := h
  refine ops_IC g10 (⟨_, rfl, fun number11 enumber11 => ?_⟩)
  have h := h number11 enumber11
  refine kn_nrm (Γ' := [some (zAt b), some (iz zI number11), some (iz zI size5), some (iz yS word9), none]) rfl ?_
  try dsimp only
  refine kn_seq (kn_forW (r := zI) (S := Int × Str) (fun s12 => [some (zAt b), some (iz zI s12.1), some (iz zI size5), some (iz yS s12.2), none]) (fun s12 => [cBagC (n + 1) b l]) (number11, word9) (wi_range (wa_cons (we_var rfl (wa_nil ?_)))))
  obtain ⟨g14, h⟩ := h
  refine ⟨_, rfl, (by have hb : big = 100000 := rfl; omega), (by have hb : big = 100000 := rfl; omega), ⟨_, _, _, _, _, rfl, rfl, (by and_intros), fun _ _ => tg_name, h, fun fr' le x13 s12 nx M hnx hbk h => ?_, fun s12 h => ?_⟩⟩
  · have hret := hret.fine le
    refine kn_seq (kn_asgL (i := 3) (r := yS) (we_op (we_var rfl (we_op (we_cSy (z := "abcdefghijklmnopqrstuvwxyz0123456789") (asc_of (by decide)) (by decide) (we_op (we_cb (wa_cons (we_var rfl (wa_nil (cb_int (we_cI (ops_IC (C := fun _ j => j ≠ 0) (by decide) ?_)))))))))))))
    obtain ⟨v15, ev15, h⟩ := h
    refine oy_ixS ev15 ?_
    obtain ⟨g16, h⟩ := h
    refine oy_addS g16 (⟨_, rfl, fun word17 eword17 => ?_⟩)
    have h := h word17 eword17
    refine kn_nrm (Γ' := [some (zAt b), some (iz zI s12.1), some (iz zI size5), some (iz yS word17), some (iz zI x13)]) rfl ?_
    try dsimp only
    refine kn_asgL (i := 1) (r := zI) (we_op (we_var rfl (we_cI ?_)))
    obtain ⟨g18, h⟩ := h
    refine ops_IC g18 (⟨_, rfl, fun number19 enumber19 => ?_⟩)
    have h := h number19 enumber19
    exact hnx (number19, word17) _ _ h (by and_intros) rfl
  try dsimp only
  refine kn_ret (we_var rfl ?_)
  exact hret _ h _ _ (by have hb : big = 100000 := rfl; omega) (List.mem_of_getElem? (i := 0) rfl)
abbrev s__law_fresh : Stmt := topS 33
theorem sc__law_fresh : FnScope ["_law_box_here", "_law_used", "_law_word_here", "_law_k"] ["_law_box_here", "_law_used"] (defScope s__law_fresh) := ⟨rfl, rfl, rfl, by decide +kernel, rfl, by decide +kernel, by decide +kernel⟩
def m__law_fresh (p_law_used : (List Str)) : DM Str := fun Q X =>
  m__law_word  (fun v1 =>
  forD (intsF 0 ((60 : Int)).toNat) v1 (fun x3 s2 nx bk =>
  ifD (!decide (s2 ∈ p_law_used)) (
  Q s2) (
  ∃ v4, atI (("abcdefghijklmnopqrstuvwxyz" : Str)).cps.toList (Int.fmod x3 (26 : Int)) = some v4 ∧
  CStr x3 ∧
  ((⟨#[v4]⟩ : Str)).length + ((numS x3)).length ≤ big ∧
  ∀ word7, word7 = ((⟨#[v4]⟩ : Str) ++ (numS x3)) →
  nx word7)) (fun s2 =>
  Q s2)) noX
theorem ok__law_fresh {k : Nat} {cs : EK → Addr} (B : Bl mg) (D__law_word : Def P w K mg base CX0 k "_law_word" ["_law_box_here"] (spC (preKN 1 (preBW (fun x : Unit => []) yS (fun x => m__law_word)))))
    (F : Src K mg "_law_fresh" s__law_fresh ["_law_box_here", "_law_used"]) : Def P w K mg base CX0 (k + 1) "_law_fresh" ["_law_box_here", "_law_used"] (spC (preKN 1 (preBW (fun x : (List Str) => [iz (yL yS) x]) yS (fun x => m__law_fresh x)))) := by
  refine F.okKN sc__law_fresh (fun _ => rfl) (fun f cdv A outer s H E b l n p_law_used Q hN hr h => ⟨_, (pss_cons (ps_asg (pe_def D__law_word hr pass0 (pa_cons (pv 0) pa_nil)) (pg_name (i := 2) sc__law_fresh.nd rfl (Or.inl rfl)))
 (pss_cons (ps_for PassesOwn.never rfl (pi_range1 (by rfl) B.range (pa_cons pe_int pa_nil)) (pg_name (i := 3) sc__law_fresh.nd rfl (Or.inl rfl)) (pss_cons (ps_if (pt_cmpR (kop_notIn (K := K)) (pv 2) (pv 1) rfl) (pss_one (ps_ret (pv 2))) pss_nil)
 (pss_one (ps_asg (pe_op op_add_str (pe_ix ix_str pe_str (pe_op op_modN (pv 3) pe_int) (fun _ _ => rfl)) (pe_callTy call_str_int (by rfl) B.str' (by decide +kernel) (pa_cons (pv 3) pa_nil))) (pg_name (i := 2) sc__law_fresh.nd rfl (Or.inl rfl))))))
 (pss_one (ps_ret (pv 2))))), fun fr Qv hret => ?_⟩)
  replace h : m__law_fresh p_law_used Q noX := h
  unfold m__law_fresh at h
  refine kn_seq (kn_asg (i := 2) (we_callE (wa_cons (we_var rfl (wa_nil ?_)))))
  refine sps_KN (j := 0) rfl (by have hb : big = 100000 := rfl; omega) () h (fun v1 h => ?_)
  try dsimp only [List.set]
  try dsimp only
  refine kn_seq (kn_forW (r := zI) (S := Str) (fun s2 => [some (zAt b), some (iz (yL yS) p_law_used), some (iz yS s2), none]) (fun s2 => [cBagC (n + 1) b l]) v1 (wi_range (wa_cons (we_cI (wa_nil (⟨_, rfl, (by have hb : big = 100000 := rfl; omega), (by have hb : big = 100000 := rfl; omega), ⟨_, _, _, _, _, rfl, rfl, (by and_intros), fun _ _ => tg_name, h, fun fr' le x3 s2 nx M hnx hbk h => ?_, fun s2 h => ?_⟩⟩))))))
  · have hret := hret.fine le
    refine kn_seq (kn_if (wt_test (we_op (we_var rfl (we_var rfl (oy_ninS sy_L (⟨_, rfl, ⟨fun hc => ?_, fun hc => ?_⟩⟩)))))))
    · have h := h.1 hc
      refine kn_ret (we_var rfl ?_)
      exact hret _ h _ _ (by have hb : big = 100000 := rfl; omega) (List.mem_of_getElem? (i := 0) rfl)
    · have h := h.2 hc
      refine kn_next ?_
      try dsimp only
      refine kn_asgL (i := 2) (r := yS) (we_op (we_op (we_cSy (z := "abcdefghijklmnopqrstuvwxyz") (asc_of (by decide)) (by decide) (we_op (we_var rfl (we_cI (ops_IC (C := fun _ j => j ≠ 0) (by decide) ?_)))))))
      obtain ⟨v4, ev4, h⟩ := h
      refine oy_ixS ev4 (we_cb (wa_cons (we_var rfl (wa_nil ?_))))
      obtain ⟨g5, h⟩ := h
      refine cy_str g5 ?_
      obtain ⟨g6, h⟩ := h
      refine oy_addS g6 (⟨_, rfl, fun word7 eword7 => ?_⟩)
      have h := h word7 eword7
      exact hnx word7 _ _ h (by and_intros) rfl
  try dsimp only
  refine kn_ret (we_var rfl ?_)
  exact hret _ h _ _ (by have hb : big = 100000 := rfl; omega) (List.mem_of_getElem? (i := 0) rfl)
abbrev s__law_words : Stmt := topS 34
theorem sc__law_words : FnScope ["_law_box_here", "_law_many", "_law_words_here", "_law_turn"] ["_law_box_here", "_law_many"] (defScope s__law_words) := ⟨rfl, rfl, rfl, by decide +kernel, rfl, by decide +kernel, by decide +kernel⟩
def m__law_words (p_law_many : Int) : DM (List Str) := fun Q X =>
  (-100000 ≤ p_law_many ∧ p_law_many ≤ 100000) ∧
  forD (intsF 0 (p_law_many).toNat) ([]) (fun x3 s2 nx bk =>
  m__law_fresh s2 (fun v6 =>
  (s2).length < big ∧
  nx (s2 ++ [v6])) noX) (fun s2 =>
  Q s2)
theorem ok__law_words {k : Nat} {cs : EK → Addr} (B : Bl mg) (D__law_fresh : Def P w K mg base CX0 k "_law_fresh" ["_law_box_here", "_law_used"] (spC (preKN 1 (preBW (fun x : (List Str) => [iz (yL yS) x]) yS (fun x => m__law_fresh x)))))
    (F : Src K mg "_law_words" s__law_words ["_law_box_here", "_law_many"]) : Def P w K mg base CX0 (k + 1) "_law_words" ["_law_box_here", "_law_many"] (spC (preKN 100000 (preBW (fun x : Int => [iz zI x]) (yL yS) (fun x => m__law_words x)))) := by
  refine F.okKN sc__law_words (fun _ => rfl) (fun f cdv A outer s H E b l n p_law_many Q hN hr h => ⟨_, (pss_cons (ps_asg (pe_lst pa_nil) (pg_name (i := 2) sc__law_words.nd rfl (Or.inl rfl)))
 (pss_cons (ps_for PassesOwn.never rfl (pi_range1 (by rfl) B.range (pa_cons (pv 1) pa_nil)) (pg_name (i := 3) sc__law_words.nd rfl (Or.inl rfl)) (pss_one (ps_expr (pe_bm PySem.F.plainAttrs_list PySem.F.slot_list_append PySem.F.type_list_append mt_append (pv 2) (pa_cons (pe_def D__law_fresh hr pass0 (pa_cons (pv 0) (pa_cons (pv 2) pa_nil))) pa_nil)))))
 (pss_one (ps_ret (pv 2))))), fun fr Qv hret => ?_⟩)
  replace h : m__law_words p_law_many Q noX := h
  unfold m__law_words at h
  refine kn_seq (kn_asg (i := 2) (we_ownY yS (wa_nil (⟨[], rfl, Nat.le_of_ble_eq_true rfl, fun a1 => ?_⟩))))
  try dsimp only
  refine kn_seq (kn_forK (r := zI) (S := (List Str)) (fun s2 => [some (zAt b), some (iz zI p_law_many), some (zAt a1), none]) (fun i s2 => [cY a1 yS s2, cBagC (n + i * 1) b l]) (fun s2 => [cY a1 yS s2, cBagC (n + 100000) b l]) ([]) (wi_range (wa_cons (we_var rfl (wa_nil ?_)))))
  obtain ⟨g5, h⟩ := h
  refine ⟨_, rfl, (by have hb : big = 100000 := rfl; omega), (by have hb : big = 100000 := rfl; omega), ⟨_, _, _, _, _, rfl, .cons (.refl _) (.cons (.bag (by have hb : big = 100000 := rfl; omega)) (.nil)), (by and_intros), fun _ _ => tg_name, h, fun fr' le i4 x3 s2 nx M hi4 hnx hbk h => ?_, fun s2 => .cons (.refl _) (.cons (.bag (by have hb : big = 100000 := rfl; have hl : ((intsF 0 (p_law_many).toNat)).length ≤ big := (intsF_big (by have hb : big = 100000 := rfl; omega)); omega)) (.nil)), fun s2 h => ?_⟩⟩
  · replace hi4 := Nat.lt_of_lt_of_le hi4 (show _ ≤ 100000 from (intsF_big (by have hb : big = 100000 := rfl; omega)))
    have hret := hret.fine le
    refine kn_appY (i := 2) (j := 0) rfl rfl (we_callE (wa_cons (we_var rfl (wa_cons (we_var rfl (wa_nil ?_))))))
    refine sps_KNl (j := 1) (i := 0) rfl rfl (by decide) (by have hb : big = 100000 := rfl; omega) s2 h (fun v6 h => ?_) ⟨_, rfl, .cons (.inr ⟨rfl, rfl⟩) (.nil)⟩
    try dsimp only [List.set]
    obtain ⟨g7, h⟩ := h
    refine ⟨_, rfl, rfl, g7, ?_⟩
    exact hnx (s2 ++ [v6]) _ _ h (by and_intros) (.cons (.refl _) (.cons (.bag (by have hb : big = 100000 := rfl; omega)) (.nil)))
  try dsimp only
  refine kn_ret (we_var rfl ?_)
  exact rt_frzY (j := 0) rfl (hret _ h _ _ (by have hb : big = 100000 := rfl; omega) (List.mem_of_getElem? (i := 0) rfl))
abbrev s__law_pick : Stmt := topS 35
theorem sc__law_pick : FnScope ["_law_box_here", "_law_words_here", "_law_least", "_law_number", "_law_chosen", "_law_word_here"] ["_law_box_here", "_law_words_here", "_law_least"] (defScope s__law_pick) := ⟨rfl, rfl, rfl, by decide +kernel, rfl, by decide +kernel, by decide +kernel⟩
def m__law_pick (p_law_words_here : (List Str)) (p_law_least : Int) : DM (List Str) := fun Q X =>
  CPow (3 : Int) (12 : Int) ∧
  m_draw ((3 : Int) ^ ((12 : Int)).toNat) (fun v2 =>
  forD p_law_words_here (v2, []) (fun x5 s4 nx bk =>
  joinD (fun j8 =>
  ifD (decide ((Int.fmod s4.1 (3 : Int)) = (0 : Int))) (
  (s4.2).length < big ∧
  j8 (s4.2 ++ [x5])) (
  j8 s4.2)) (fun s7 : (List Str) =>
  CDivN s4.1 (3 : Int) ∧
  ∀ number11, number11 = (Int.fdiv s4.1 (3 : Int)) →
  nx (number11, s7))) (fun s4 =>
  joinD (fun j13 =>
  ifD (decide (((s4.2).length : Int) < p_law_least)) (
  m_draw ((p_law_words_here).length : Int) (fun v16 =>
  ∃ v17, atI p_law_words_here v16 = some v17 ∧
  ∀ chosen18, chosen18 = [v17] →
  j13 chosen18) noX) (
  j13 s4.2)) (fun s12 : (List Str) =>
  Q s12))) noX
theorem ok__law_pick {k : Nat} {cs : EK → Addr} (B : Bl mg) (D__law_draw : Def P w K mg base CX0 k "_law_draw" ["_law_box_here", "_law_limit"] (spC (preKN 1 (preBW (fun x : Int => [iz zI x]) zI m_draw))))
    (F : Src K mg "_law_pick" s__law_pick ["_law_box_here", "_law_words_here", "_law_least"]) : Def P w K mg base CX0 (k + 1) "_law_pick" ["_law_box_here", "_law_words_here", "_law_least"] (spC (preKN 2 (preBW (fun x : (List Str) × Int => [iz (yL yS) x.1, iz zI x.2]) (yL yS) (fun x => m__law_pick x.1 x.2)))) := by
  refine F.okKN sc__law_pick (fun _ => rfl) (fun f cdv A outer s H E b l n x Q hN hr h => ⟨_, (pss_cons (ps_asg (pe_def D__law_draw hr pass0 (pa_cons (pv 0) (pa_cons (pe_op op_pow pe_int pe_int) pa_nil))) (pg_name (i := 3) sc__law_pick.nd rfl (Or.inl rfl)))
 (pss_cons (ps_asg (pe_lst pa_nil) (pg_name (i := 4) sc__law_pick.nd rfl (Or.inl rfl)))
 (pss_cons (ps_for PassesOwn.never rfl (kpi_list (K := K) (pv 1)) (pg_name (i := 5) sc__law_pick.nd rfl (Or.inl rfl)) (C8.pss_cut (ps_if (pt_cmpR op_eq (pe_op op_modN (pe_callTy call_int1 (by rfl) B.int' (by decide +kernel) (pa_cons (pv 3) pa_nil)) pe_int) pe_int (nomark _)) (pss_one (ps_expr (pe_bm PySem.F.plainAttrs_list PySem.F.slot_list_append PySem.F.type_list_append mt_append (pv 4) (pa_cons (pv 5) pa_nil)))) pss_nil)
 (pss_one (ps_asg (pe_op op_fdivN (pv 3) pe_int) (pg_name (i := 3) sc__law_pick.nd rfl (Or.inl rfl))))))
 (C8.pss_cut (ps_if (pt_cmpR op_lt (pe_callB (kcall_len (K := K)) (by rfl) B.len PySem.boot_len (pa_cons (pv 4) pa_nil)) (pv 2) (nomark _)) (pss_one (ps_asg (pe_lst (pa_cons (pe_ix (kix_list (K := K)) (pv 1) (pe_def D__law_draw hr pass0 (pa_cons (pv 0) (pa_cons (pe_callB (kcall_len (K := K)) (by rfl) B.len PySem.boot_len (pa_cons (pv 1) pa_nil)) pa_nil))) (fun _ _ => rfl)) pa_nil)) (pg_name (i := 4) sc__law_pick.nd rfl (Or.inl rfl)))) pss_nil)
 (pss_one (ps_ret (pv 4))))))), fun fr Qv hret => ?_⟩)
  obtain ⟨p_law_words_here, p_law_least⟩ := x
  replace h : m__law_pick p_law_words_here p_law_least Q noX := h
  unfold m__law_pick at h
  refine kn_seq (kn_asg (i := 3) (we_callE (wa_cons (we_var rfl (wa_cons (we_op (we_cI (we_cI ?_))))))))
  obtain ⟨g1, h⟩ := h
  refine ops_IC g1 (wa_nil ?_)
  refine sps_KN (j := 0) rfl (by have hb : big = 100000 := rfl; omega) ((3 : Int) ^ ((12 : Int)).toNat) h (fun v2 h => ?_)
  try dsimp only [List.set]
  refine kn_nrm (Γ' := [some (zAt b), some (iz (yL yS) p_law_words_here), some (iz zI p_law_least), some (iz zI v2), none, none]) rfl ?_
  try dsimp only
  refine kn_seq (kn_asg (i := 4) (we_ownY yS (wa_nil (⟨[], rfl, Nat.le_of_ble_eq_true rfl, fun a3 => ?_⟩))))
  refine kn_nrm (Γ' := [some (zAt b), some (iz (yL yS) p_law_words_here), some (iz zI p_law_least), some (iz zI v2), some (zAt a3), none]) rfl ?_
  try dsimp only
  refine kn_seq (kn_forW (r := yS) (S := Int × (List Str)) (fun s4 => [some (zAt b), some (iz (yL yS) p_law_words_here), some (iz zI p_law_least), some (iz zI s4.1), some (zAt a3), none]) (fun s4 => [cY a3 yS s4.2, cBagC (n + 1) b l]) (v2, []) (wi_yL (we_var rfl (⟨_, _, _, rfl, fun e6 => ⟨_, _, _, _, _, rfl, rfl, (by and_intros), fun _ _ => tg_name, h, fun fr' le x5 s4 nx M hnx hbk h => ?_, fun s4 h => ?_⟩⟩))))
  · have hret := hret.fine le
    refine kn_cutW (S := (List Str)) (fun s7 => [some (zAt b), some (iz (yL yS) p_law_words_here), some (iz zI p_law_least), some (iz zI s4.1), some (zAt a3), some (iz yS x5)]) (fun s7 => [cY a3 yS s7, cBagC (n + 1) b l]) h (fun M hjn h => ?_) (fun s7 h => ?_)
    · refine kn_if (wt_test (we_op (we_op (we_cb (wa_cons (we_var rfl (wa_nil (cb_int (we_cI (ops_IC (C := fun _ j => j ≠ 0) (by decide) (we_cI (ops_eqI (⟨_, rfl, ⟨fun hc => ?_, fun hc => ?_⟩⟩)))))))))))))
      · have h := h.1 hc
        refine kn_appY (i := 4) (j := 0) rfl rfl (we_var rfl ?_)
        obtain ⟨g9, h⟩ := h
        refine ⟨_, rfl, rfl, g9, ?_⟩
        exact hjn (s4.2 ++ [x5]) _ _ h (by and_intros) rfl
      · have h := h.2 hc
        refine kn_next ?_
        exact hjn s4.2 _ _ h (by and_intros) rfl
    try dsimp only
    refine kn_asgL (i := 3) (r := zI) (we_op (we_var rfl (we_cI ?_)))
    obtain ⟨g10, h⟩ := h
    refine ops_IC g10 (⟨_, rfl, fun number11 enumber11 => ?_⟩)
    have h := h number11 enumber11
    exact hnx (number11, s7) _ _ h (by and_intros) rfl
  try dsimp only
  refine kn_frzY (i := 4) (j := 0) rfl rfl ?_
  refine kn_cutK (S := (List Str)) (fun s12 => [some (zAt b), some (iz (yL yS) p_law_words_here), some (iz zI p_law_least), some (iz zI s4.1), some (iz (yL yS) s12), none]) (fun s12 => [cBagC ((n + 1) + 1) b l]) h (fun M hjn h => ?_) (fun s12 h => ?_)
  · refine kn_if (wt_test (we_op (we_cb (wa_cons (we_var rfl (wa_nil (cy_len sy_L (fun e14 => (we_var rfl (ops_B0 (⟨_, rfl, ⟨fun hc => ?_, fun hc => ?_⟩⟩)))))))))))
    · have h := h.1 hc
      refine kn_asgL (i := 4) (r := (yL yS)) (we_lstY (r := yS) (wa_cons (we_op (we_var rfl (we_callE (wa_cons (we_var rfl (wa_cons (we_cb (wa_cons (we_var rfl (wa_nil (cy_len sy_L (fun e15 => (wa_nil ?_)))))))))))))))
      refine sps_KN (j := 0) rfl (by have hb : big = 100000 := rfl; omega) ((p_law_words_here).length : Int) h (fun v16 h => ?_)
      try dsimp only [List.set]
      obtain ⟨v17, ev17, h⟩ := h
      refine oy_ixL ev17 (wa_nil (⟨[v17], rfl, Nat.le_of_ble_eq_true rfl, ⟨_, rfl, fun chosen18 echosen18 => ?_⟩⟩))
      have h := h chosen18 echosen18
      exact hjn chosen18 _ _ h (by and_intros) (.cons (.bag (by have hb : big = 100000 := rfl; omega)) (.nil))
    · have h := h.2 hc
      refine kn_next ?_
      exact hjn s4.2 _ _ h (by and_intros) (.cons (.bag (by have hb : big = 100000 := rfl; omega)) (.nil))
  try dsimp only
  refine kn_ret (we_var rfl ?_)
  exact hret _ h _ _ (by have hb : big = 100000 := rfl; omega) (List.mem_of_getElem? (i := 0) rfl)
abbrev s__law_any : Stmt := topS 36
theorem sc__law_any : FnScope ["_law_box_here", "_law_most_places", "_law_most_steps", "_law_words_here", "_law_places", "_law_steps", "_law_word_here", "_law_taken"] ["_law_box_here", "_law_most_places", "_law_most_steps"] (defScope s__law_any) := ⟨rfl, rfl, rfl, by decide +kernel, rfl, by decide +kernel, by decide +kernel⟩
def m__law_any (p_law_most_places : Int) (p_law_most_steps : Int) : DM ((List (Str × Int)) × (List (Str × (List Str) × (List Str)))) := fun Q X =>
  m_draw p_law_most_places (fun v1 =>
  m__law_words ((1 : Int) + v1) (fun v2 =>
  mapD v2 [] (fun x3 k4 =>
  m_draw (3 : Int) (fun v8 =>
  k4 (x3, v8)) noX) (fun ys5 =>
  m_draw p_law_most_steps (fun v13 =>
  m__law_words ((1 : Int) + v13) (fun v14 =>
  forD v14 ([]) (fun x11 s10 nx bk =>
  m__law_pick v2 (1 : Int) (fun v16 =>
  m__law_pick v2 (0 : Int) (fun v17 =>
  (s10).length < big ∧
  nx (s10 ++ [(x11, v16, v17)])) noX) noX) (fun s10 =>
  Q (ys5, s10))) noX) noX)) noX) noX
theorem ok__law_any {k : Nat} {cs : EK → Addr} (B : Bl mg) (D__law_words : Def P w K mg base CX0 k "_law_words" ["_law_box_here", "_law_many"] (spC (preKN 100000 (preBW (fun x : Int => [iz zI x]) (yL yS) (fun x => m__law_words x))))) (D__law_draw : Def P w K mg base CX0 k "_law_draw" ["_law_box_here", "_law_limit"] (spC (preKN 1 (preBW (fun x : Int => [iz zI x]) zI m_draw)))) (D__law_pick : Def P w K mg base CX0 k "_law_pick" ["_law_box_here", "_law_words_here", "_law_least"] (spC (preKN 2 (preBW (fun x : (List Str) × Int => [iz (yL yS) x.1, iz zI x.2]) (yL yS) (fun x => m__law_pick x.1 x.2)))))
    (F : Src K mg "_law_any" s__law_any ["_law_box_here", "_law_most_places", "_law_most_steps"]) : Def P w K mg base CX0 (k + 1) "_law_any" ["_law_box_here", "_law_most_places", "_law_most_steps"] (spC (preKN 700002 (preBW (fun x : Int × Int => [iz zI x.1, iz zI x.2]) (z2 (yL (z2 yS zI)) (yL (z3 yS (yL yS) (yL yS)))) (fun x => m__law_any x.1 x.2)))) := by
  refine F.okKN sc__law_any (fun _ => rfl) (fun f cdv A outer s H E b l n x Q hN hr h => ⟨_, (pss_cons (ps_asg (pe_def D__law_words hr pass0 (pa_cons (pv 0) (pa_cons (pe_op op_add pe_int (pe_def D__law_draw hr pass0 (pa_cons (pv 0) (pa_cons (pv 1) pa_nil)))) pa_nil))) (pg_name (i := 3) sc__law_any.nd rfl (Or.inl rfl)))
 (pss_cons (ps_setLc (i := 4) (own := [("_law_word_here", 6)]) (g := gName 6) (by rfl) sc__law_any.nd rfl rfl (sw_true rfl rfl rfl (by decide +kernel)) (kpi_list (K := K) (pv 3)) (blkOk_by (N := ["_law_box_here", "_law_most_places", "_law_most_steps", "_law_words_here", "_law_places", "_law_steps", "_law_word_here", "_law_taken"]) (sc := defScope s__law_any) (by decide +kernel)) (fun _ _ _ _ _ => (pg_name (i := 6) sc__law_any.nd rfl (Or.inl rfl))) (fun _ _ _ _ _ => pts_nil) (fun _ _ _ _ _ => (pe_tup (pa_cons (pv 6) (pa_cons (pe_def D__law_draw hr pass0 (pa_cons (pv 0) (pa_cons pe_int pa_nil))) pa_nil)))))
 (pss_cons (ps_asg (pe_lst pa_nil) (pg_name (i := 5) sc__law_any.nd rfl (Or.inl rfl)))
 (pss_cons (ps_for PassesOwn.never rfl (kpi_list (K := K) (pe_def D__law_words hr pass0 (pa_cons (pv 0) (pa_cons (pe_op op_add pe_int (pe_def D__law_draw hr pass0 (pa_cons (pv 0) (pa_cons (pv 2) pa_nil)))) pa_nil)))) (pg_name (i := 6) sc__law_any.nd rfl (Or.inl rfl)) (pss_cons (ps_asg (pe_def D__law_pick hr pass0 (pa_cons (pv 0) (pa_cons (pv 3) (pa_cons pe_int pa_nil)))) (pg_name (i := 7) sc__law_any.nd rfl (Or.inl rfl)))
 (pss_one (ps_expr (pe_bm PySem.F.plainAttrs_list PySem.F.slot_list_append PySem.F.type_list_append mt_append (pv 5) (pa_cons (pe_tup (pa_cons (pv 6) (pa_cons (pv 7) (pa_cons (pe_def D__law_pick hr pass0 (pa_cons (pv 0) (pa_cons (pv 3) (pa_cons pe_int pa_nil)))) pa_nil)))) pa_nil))))))
 (pss_one (ps_ret (pe_tup (pa_cons (pv 4) (pa_cons (pv 5) pa_nil))))))))), fun fr Qv hret => ?_⟩)
  obtain ⟨p_law_most_places, p_law_most_steps⟩ := x
  replace h : m__law_any p_law_most_places p_law_most_steps Q noX := h
  unfold m__law_any at h
  refine kn_seq (kn_asg (i := 3) (we_callE (wa_cons (we_var rfl (wa_cons (we_op (we_cI (we_callE (wa_cons (we_var rfl (wa_cons (we_var rfl (wa_nil ?_)))))))))))))
  refine sps_KN (j := 0) rfl (by have hb : big = 100000 := rfl; omega) p_law_most_places h (fun v1 h => ?_)
  try dsimp only [List.set]
  refine ops_I0 (wa_nil ?_)
  refine sps_KN (j := 0) rfl (by have hb : big = 100000 := rfl; omega) ((1 : Int) + v1) h (fun v2 h => ?_)
  try dsimp only [List.set]
  refine kn_nrm (Γ' := [some (zAt b), some (iz zI p_law_most_places), some (iz zI p_law_most_steps), some (iz (yL yS) v2), none, none, none, none]) rfl ?_
  try dsimp only
  refine kn_seq (kn_asg (i := 4) (we_lcMK (r := yS) (s := (z2 yS zI)) (wi_yL (we_var rfl (⟨_, _, _, rfl, fun e6 => ⟨_, _, _, _, (fun i => [cBagC (((n + 1) + 100000) + i * 1) b l]), [cBagC (((n + 1) + 100000) + 100000) b l], rfl, .cons (.bag (by have hb : big = 100000 := rfl; omega)) (.nil), e6, fun _ => tg_name, h, fun i7 x3 c k4 hi7 h => ?_, .cons (.bag (by have hb : big = 100000 := rfl; have hl : (v2).length ≤ big := e6; omega)) (.nil), fun ys5 h eys5 => ?_⟩⟩)))))
  · replace hi7 := Nat.lt_of_lt_of_le hi7 (show _ ≤ 100000 from e6)
    refine we_tup (wa_cons (we_var rfl (wa_cons (we_callE (wa_cons (we_var rfl (wa_cons (we_cI (wa_nil ?_)))))))))
    refine sps_KN (j := 1) rfl (by have hb : big = 100000 := rfl; omega) (3 : Int) h (fun v8 h => ?_)
    try dsimp only [List.set]
    refine wa_nil (⟨Nat.le_of_ble_eq_true rfl, iz (z2 yS zI) (x3, v8), tr2, ?_⟩)
    exact ⟨.cons (.refl _) (.cons (.bag (by have hb : big = 100000 := rfl; omega)) (.nil)), _, rfl, h⟩
  refine kn_nrm (Γ' := [some (zAt b), some (iz zI p_law_most_places), some (iz zI p_law_most_steps), some (iz (yL yS) v2), some (iz (yL (z2 yS zI)) ys5), none, none, none]) rfl ?_
  try dsimp only
  refine kn_seq (kn_asg (i := 5) (we_ownY (z3 yS (yL yS) (yL yS)) (wa_nil (⟨[], rfl, Nat.le_of_ble_eq_true rfl, fun a9 => ?_⟩))))
  refine kn_nrm (Γ' := [some (zAt b), some (iz zI p_law_most_places), some (iz zI p_law_most_steps), some (iz (yL yS) v2), some (iz (yL (z2 yS zI)) ys5), some (zAt a9), none, none]) rfl ?_
  try dsimp only
  refine kn_seq (kn_forK (r := yS) (S := (List (Str × (List Str) × (List Str)))) (fun s10 => [some (zAt b), some (iz zI p_law_most_places), some (iz zI p_law_most_steps), some (iz (yL yS) v2), some (iz (yL (z2 yS zI)) ys5), some (zAt a9), none, none]) (fun i s10 => [cY a9 (z3 yS (yL yS) (yL yS)) s10, cBagC ((((((n + 1) + 100000) + 100000) + 1) + 100000) + i * 4) b l]) (fun s10 => [cY a9 (z3 yS (yL yS) (yL yS)) s10, cBagC ((((((n + 1) + 100000) + 100000) + 1) + 100000) + 400000) b l]) ([]) (wi_yL (we_callE (wa_cons (we_var rfl (wa_cons (we_op (we_cI (we_callE (wa_cons (we_var rfl (wa_cons (we_var rfl (wa_nil ?_))))))))))))))
  refine sps_KN (j := 1) rfl (by have hb : big = 100000 := rfl; omega) p_law_most_steps h (fun v13 h => ?_)
  try dsimp only [List.set]
  refine ops_I0 (wa_nil ?_)
  refine sps_KN (j := 1) rfl (by have hb : big = 100000 := rfl; omega) ((1 : Int) + v13) h (fun v14 h => ?_)
  try dsimp only [List.set]
  refine ⟨_, _, _, rfl, fun e15 => ⟨_, _, _, _, _, rfl, .cons (.refl _) (.cons (.bag (by have hb : big = 100000 := rfl; omega)) (.nil)), (by and_intros), fun _ _ => tg_name, h, fun fr' le i12 x11 s10 nx M hi12 hnx hbk h => ?_, fun s10 => .cons (.refl _) (.cons (.bag (by have hb : big = 100000 := rfl; have hl : (v14).length ≤ big := e15; omega)) (.nil)), fun s10 h => ?_⟩⟩
  · replace hi12 := Nat.lt_of_lt_of_le hi12 (show _ ≤ 100000 from e15)
    have hret := hret.fine le
    refine kn_seq (kn_asg (i := 7) (we_callE (wa_cons (we_var rfl (wa_cons (we_var rfl (wa_cons (we_cI (wa_nil ?_)))))))))
    refine sps_KN (j := 1) rfl (by have hb : big = 100000 := rfl; omega) (v2, (1 : Int)) h (fun v16 h => ?_)
    try dsimp only [List.set]
    refine kn_nrm (Γ' := [some (zAt b), some (iz zI p_law_most_places), some (iz zI p_law_most_steps), some (iz (yL yS) v2), some (iz (yL (z2 yS zI)) ys5), some (zAt a9), some (iz yS x11), some (iz (yL yS) v16)]) rfl ?_
    try dsimp only
    refine kn_appY (i := 5) (j := 0) rfl rfl (we_tup (wa_cons (we_var rfl (wa_cons (we_var rfl (wa_cons (we_callE (wa_cons (we_var rfl (wa_cons (we_var rfl (wa_cons (we_cI (wa_nil ?_))))))))))))))
    refine sps_KN (j := 1) rfl (by have hb : big = 100000 := rfl; omega) (v2, (0 : Int)) h (fun v17 h => ?_)
    try dsimp only [List.set]
    refine wa_nil (⟨Nat.le_of_ble_eq_true rfl, iz (z3 yS (yL yS) (yL yS)) (x11, v16, v17), tr3, ?_⟩)
    obtain ⟨g18, h⟩ := h
    refine ⟨_, rfl, rfl, g18, ?_⟩
    exact hnx (s10 ++ [(x11, v16, v17)]) _ _ h (by and_intros) (.cons (.refl _) (.cons (.bag (by have hb : big = 100000 := rfl; omega)) (.nil)))
  try dsimp only
  refine kn_frzY (i := 5) (j := 0) rfl rfl ?_
  refine kn_ret (we_tup (wa_cons (we_var rfl (wa_cons (we_var rfl (wa_nil (⟨Nat.le_of_ble_eq_true rfl, iz (z2 (yL (z2 yS zI)) (yL (z3 yS (yL yS) (yL yS)))) (ys5, s10), tr2, ?_⟩)))))))
  exact hret _ h _ _ (by have hb : big = 100000 := rfl; omega) (List.mem_of_getElem? (i := 0) rfl)
end
section
variable {P : Program} {w : World} {K : PySem.W.Frag} {mg : Str → Option Value} {base : Heap}
abbrev s__law_stretched : Stmt := topS 37
theorem sc__law_stretched : FnScope ["_law_rows", "_law_place", "_law_word_here", "_law_name", "_law_steps", "_law_old_here", "_law_taken", "_law_given", "_law_other"] ["_law_rows", "_law_place", "_law_word_here", "_law_name"] (defScope s__law_stretched) := ⟨rfl, rfl, rfl, by decide +kernel, rfl, by decide +kernel, by decide +kernel⟩
def m__law_stretched (p_law_rows : ((List (Str × Int)) × (List (Str × (List Str) × (List Str))))) (p_law_place : Str) (p_law_word_here : Str) (p_law_name : Str) : DM ((List (Str × Int)) × (List (Str × (List Str) × (List Str)))) := fun Q X =>
  forD p_law_rows.2 ([]) (fun x3 s2 nx bk =>
  (s2).length < big ∧
  nx (s2 ++ [(x3.1, ((x3.2.1).map fun x5 => (bif (decide (x5 = p_law_place)) then p_law_word_here else x5)), x3.2.2)])) (fun s2 =>
  (p_law_rows.1).length + ([(p_law_word_here, (0 : Int))]).length ≤ big ∧
  (s2).length + ([(p_law_name, [p_law_place], [p_law_word_here])]).length ≤ big ∧
  Q ((p_law_rows.1 ++ [(p_law_word_here, (0 : Int))]), (s2 ++ [(p_law_name, [p_law_place], [p_law_word_here])])))
theorem ok__law_stretched {k : Nat} {cs : EK → Addr} (B : Bl mg) 
    (F : Src K mg "_law_stretched" s__law_stretched ["_law_rows", "_law_place", "_law_word_here", "_law_name"]) : Def P w K mg base CX0 (k + 1) "_law_stretched" ["_law_rows", "_law_place", "_law_word_here", "_law_name"] (spA (preW (erW cs) (fun x : ((List (Str × Int)) × (List (Str × (List Str) × (List Str)))) × Str × Str × Str => [iz (z2 (yL (z2 yS zI)) (yL (z3 yS (yL yS) (yL yS)))) x.1, iz yS x.2.1, iz yS x.2.2.1, iz yS x.2.2.2]) (z2 (yL (z2 yS zI)) (yL (z3 yS (yL yS) (yL yS)))) (fun x => m__law_stretched x.1 x.2.1 x.2.2.1 x.2.2.2))) := by
  refine F.okW sc__law_stretched (fun _ => rfl) (fun f cdv A outer s H E x Q X hr h => ⟨_, (pss_cons (ps_asg (pe_lst pa_nil) (pg_name (i := 4) sc__law_stretched.nd rfl (Or.inl rfl)))
 (pss_cons (ps_for PassesOwn.never rfl (kpi_list (K := K) (pe_ix (kix_tup (K := K)) (pv 0) pe_int (fun _ _ => rfl))) (kpg_tup (K := K) (n := 3) rfl (pgs_cons (pg_name (i := 5) sc__law_stretched.nd rfl (Or.inl rfl)) (pgs_cons (pg_name (i := 6) sc__law_stretched.nd rfl (Or.inl rfl)) (pgs_cons (pg_name (i := 7) sc__law_stretched.nd rfl (Or.inl rfl)) pgs_nil)))) (pss_one (ps_expr (pe_bm PySem.F.plainAttrs_list PySem.F.slot_list_append PySem.F.type_list_append mt_append (pv 4) (pa_cons (pe_tup (pa_cons (pv 5) (pa_cons (pe_lc (own := [("_law_other", 8)]) (g := gName 8) (by rfl) sc__law_stretched.nd (kpi_list (K := K) (pv 6)) (blkOk_by (N := ["_law_rows", "_law_place", "_law_word_here", "_law_name", "_law_steps", "_law_old_here", "_law_taken", "_law_given", "_law_other"]) (sc := defScope s__law_stretched) (by decide +kernel)) (fun _ _ _ _ _ => (pg_name (i := 8) sc__law_stretched.nd rfl (Or.inl rfl))) (fun _ _ _ _ _ => pts_nil) (fun _ _ _ _ _ => (pe_ifExp (pt_cmpR op_eq (pv 8) (pv 1) (nomark _)) (pv 2) (pv 8)))) (pa_cons (pe_callTy (kcall_list (K := K)) (by rfl) B.list' (by decide +kernel) (pa_cons (pv 7) pa_nil)) pa_nil)))) pa_nil)))))
 (pss_one (ps_ret (pe_tup (pa_cons (pe_op op_cat (pe_ix (kix_tup (K := K)) (pv 0) pe_int (fun _ _ => rfl)) (pe_lst (pa_cons (pe_tup (pa_cons (pv 2) (pa_cons pe_int pa_nil))) pa_nil))) (pa_cons (pe_op op_cat (pv 4) (pe_lst (pa_cons (pe_tup (pa_cons (pv 3) (pa_cons (pe_lst (pa_cons (pv 1) pa_nil)) (pa_cons (pe_lst (pa_cons (pv 2) pa_nil)) pa_nil)))) pa_nil))) pa_nil))))))), fun fr Qv hret => ?_⟩)
  obtain ⟨p_law_rows, p_law_place, p_law_word_here, p_law_name⟩ := x
  replace h : m__law_stretched p_law_rows p_law_place p_law_word_here p_law_name Q X := h
  unfold m__law_stretched at h
  refine kn_seq (kn_asg (i := 4) (we_ownY (z3 yS (yL yS) (yL yS)) (wa_nil (⟨[], rfl, Nat.le_of_ble_eq_true rfl, fun a1 => ?_⟩))))
  refine kn_nrm (Γ' := [some (iz (z2 (yL (z2 yS zI)) (yL (z3 yS (yL yS) (yL yS)))) p_law_rows), some (iz yS p_law_place), some (iz yS p_law_word_here), some (iz yS p_law_name), some (zAt a1), none, none, none, none]) rfl ?_
  try dsimp only
  refine kn_seq (kn_forW (r := (z3 yS (yL yS) (yL yS))) (S := (List (Str × (List Str) × (List Str)))) (fun s2 => [some (iz (z2 (yL (z2 yS zI)) (yL (z3 yS (yL yS) (yL yS)))) p_law_rows), some (iz yS p_law_place), some (iz yS p_law_word_here), some (iz yS p_law_name), some (zAt a1), none, none, none, none]) (fun s2 => [cY a1 (z3 yS (yL yS) (yL yS)) s2]) ([]) (wi_yL (we_op (we_var rfl (we_cI (ops_ix21 (⟨_, _, _, rfl, fun e4 => ⟨_, _, _, _, _, rfl, rfl, (by and_intros), fun _ _ => tg3 (by decide) (by decide) (by decide), h, fun fr' le x3 s2 nx M hnx hbk h => ?_, fun s2 h => ?_⟩⟩)))))))
  · have hret := hret.fine le
    refine kn_appY (i := 4) (j := 0) rfl rfl (we_tup (wa_cons (we_var rfl (wa_cons (we_lcM0 (r := yS) (s := yS) (wi_yL (we_var rfl (⟨_, _, _, rfl, fun e6 => ⟨_, fun x5 => (bif (decide (x5 = p_law_place)) then p_law_word_here else x5), _, rfl, rfl, e6, fun x5 => tg_name, fun x5 c => we_ifP (r := yS) (wt_test (we_op (we_var rfl (we_var rfl (oy_eqS (⟨_, rfl, ⟨_, _, fun _ => we_var rfl (⟨rfl, rfl⟩), fun _ => we_var rfl (⟨rfl, rfl⟩), ⟨rfl, rfl⟩⟩⟩)))))), wa_cons (we_cb (wa_cons (we_var rfl (wa_nil (cy_list sy_L (wa_nil (⟨Nat.le_of_ble_eq_true rfl, iz (z3 yS (yL yS) (yL yS)) (x3.1, ((x3.2.1).map fun x5 => (bif (decide (x5 = p_law_place)) then p_law_word_here else x5)), x3.2.2), tr3, ?_⟩)))))))⟩⟩))))))))
    obtain ⟨g7, h⟩ := h
    refine ⟨_, rfl, rfl, g7, ?_⟩
    exact hnx (s2 ++ [(x3.1, ((x3.2.1).map fun x5 => (bif (decide (x5 = p_law_place)) then p_law_word_here else x5)), x3.2.2)]) _ _ h (by and_intros) rfl
  try dsimp only
  refine kn_frzY (i := 4) (j := 0) rfl rfl ?_
  refine kn_ret (we_tup (wa_cons (we_op (we_op (we_var rfl (we_cI (ops_ix20 (we_lstY (r := (z2 yS zI)) (wa_cons (we_tup (wa_cons (we_var rfl (wa_cons (we_cI (wa_nil (⟨Nat.le_of_ble_eq_true rfl, iz (z2 yS zI) (p_law_word_here, (0 : Int)), tr2, wa_nil (⟨[(p_law_word_here, (0 : Int))], rfl, Nat.le_of_ble_eq_true rfl, ?_⟩)⟩))))))))))))))))
  obtain ⟨g8, h⟩ := h
  refine oy_cat g8 (wa_cons (we_op (we_var rfl (we_lstY (r := (z3 yS (yL yS) (yL yS))) (wa_cons (we_tup (wa_cons (we_var rfl (wa_cons (we_lstY (r := yS) (wa_cons (we_var rfl (wa_nil (⟨[p_law_place], rfl, Nat.le_of_ble_eq_true rfl, wa_cons (we_lstY (r := yS) (wa_cons (we_var rfl (wa_nil (⟨[p_law_word_here], rfl, Nat.le_of_ble_eq_true rfl, wa_nil (⟨Nat.le_of_ble_eq_true rfl, iz (z3 yS (yL yS) (yL yS)) (p_law_name, [p_law_place], [p_law_word_here]), tr3, wa_nil (⟨[(p_law_name, [p_law_place], [p_law_word_here])], rfl, Nat.le_of_ble_eq_true rfl, ?_⟩)⟩)⟩)))))⟩))))))))))))))
  obtain ⟨g9, h⟩ := h
  refine oy_cat g9 (wa_nil (⟨Nat.le_of_ble_eq_true rfl, iz (z2 (yL (z2 yS zI)) (yL (z3 yS (yL yS) (yL yS)))) ((p_law_rows.1 ++ [(p_law_word_here, (0 : Int))]), (s2 ++ [(p_law_name, [p_law_place], [p_law_word_here])])), tr2, ?_⟩))
  exact hret _ h _
abbrev s__law_twinned : Stmt := topS 38
theorem sc__law_twinned : FnScope ["_law_rows", "_law_place", "_law_word_here", "_law_steps", "_law_old_here", "_law_taken", "_law_given", "_law_more", "_law_number", "_law_row"] ["_law_rows", "_law_place", "_law_word_here"] (defScope s__law_twinned) := ⟨rfl, rfl, rfl, by decide +kernel, rfl, by decide +kernel, by decide +kernel⟩
def m__law_twinned (p_law_rows : ((List (Str × Int)) × (List (Str × (List Str) × (List Str))))) (p_law_place : Str) (p_law_word_here : Str) : DM ((List (Str × Int)) × (List (Str × (List Str) × (List Str)))) := fun Q X =>
  forD p_law_rows.2 ([]) (fun x3 s2 nx bk =>
  ∀ more5, more5 = (bif (decide (p_law_place ∈ x3.2.1)) then [p_law_word_here] else []) →
  (x3.2.1).length + (more5).length ≤ big ∧
  (x3.2.2).length + ((bif (decide (p_law_place ∈ x3.2.2)) then [p_law_word_here] else [])).length ≤ big ∧
  (s2).length < big ∧
  nx (s2 ++ [(x3.1, (x3.2.1 ++ more5), (x3.2.2 ++ (bif (decide (p_law_place ∈ x3.2.2)) then [p_law_word_here] else [])))])) (fun s2 =>
  ∃ v11, atI (((p_law_rows.1).filter fun x9 => (decide (x9.1 = p_law_place))).map fun x9 => x9.2) (0 : Int) = some v11 ∧
  (p_law_rows.1).length + ([(p_law_word_here, v11)]).length ≤ big ∧
  Q ((p_law_rows.1 ++ [(p_law_word_here, v11)]), s2))
theorem ok__law_twinned {k : Nat} {cs : EK → Addr} (B : Bl mg) 
    (F : Src K mg "_law_twinned" s__law_twinned ["_law_rows", "_law_place", "_law_word_here"]) : Def P w K mg base CX0 (k + 1) "_law_twinned" ["_law_rows", "_law_place", "_law_word_here"] (spA (preW (erW cs) (fun x : ((List (Str × Int)) × (List (Str × (List Str) × (List Str)))) × Str × Str => [iz (z2 (yL (z2 yS zI)) (yL (z3 yS (yL yS) (yL yS)))) x.1, iz yS x.2.1, iz yS x.2.2]) (z2 (yL (z2 yS zI)) (yL (z3 yS (yL yS) (yL yS)))) (fun x => m__law_twinned x.1 x.2.1 x.2.2))) := by
  refine F.okW sc__law_twinned (fun _ => rfl) (fun f cdv A outer s H E x Q X hr h => ⟨_, (pss_cons (ps_asg (pe_lst pa_nil) (pg_name (i := 3) sc__law_twinned.nd rfl (Or.inl rfl)))
 (pss_cons (ps_for PassesOwn.never rfl (kpi_list (K := K) (pe_ix (kix_tup (K := K)) (pv 0) pe_int (fun _ _ => rfl))) (kpg_tup (K := K) (n := 3) rfl (pgs_cons (pg_name (i := 4) sc__law_twinned.nd rfl (Or.inl rfl)) (pgs_cons (pg_name (i := 5) sc__law_twinned.nd rfl (Or.inl rfl)) (pgs_cons (pg_name (i := 6) sc__law_twinned.nd rfl (Or.inl rfl)) pgs_nil)))) (pss_cons (ps_asg (pe_ifExp (pt_cmpR (kop_in (K := K)) (pv 1) (pv 5) rfl) (pe_lst (pa_cons (pv 2) pa_nil)) (pe_lst pa_nil)) (pg_name (i := 7) sc__law_twinned.nd rfl (Or.inl rfl)))
 (pss_one (ps_expr (pe_bm PySem.F.plainAttrs_list PySem.F.slot_list_append PySem.F.type_list_append mt_append (pv 3) (pa_cons (pe_tup (pa_cons (pv 4) (pa_cons (pe_op op_cat (pv 5) (pv 7)) (pa_cons (pe_op op_cat (pv 6) (pe_ifExp (pt_cmpR (kop_in (K := K)) (pv 1) (pv 6) rfl) (pe_lst (pa_cons (pv 2) pa_nil)) (pe_lst pa_nil))) pa_nil)))) pa_nil))))))
 (pss_cons (ps_asg (pe_ix (kix_list (K := K)) (pe_lc (own := [("_law_row", 9)]) (g := gName 9) (by rfl) sc__law_twinned.nd (kpi_list (K := K) (pe_ix (kix_tup (K := K)) (pv 0) pe_int (fun _ _ => rfl))) (blkOk_by (N := ["_law_rows", "_law_place", "_law_word_here", "_law_steps", "_law_old_here", "_law_taken", "_law_given", "_law_more", "_law_number", "_law_row"]) (sc := defScope s__law_twinned) (by decide +kernel)) (fun _ _ _ _ _ => (pg_name (i := 9) sc__law_twinned.nd rfl (Or.inl rfl))) (fun _ _ _ _ _ => pts_one (pt_cmpR op_eq (pe_ix (kix_tup (K := K)) (pv 9) pe_int (fun _ _ => rfl)) (pv 1) (nomark _))) (fun _ _ _ _ _ => (pe_ix (kix_tup (K := K)) (pv 9) pe_int (fun _ _ => rfl)))) pe_int (fun _ _ => rfl)) (pg_name (i := 8) sc__law_twinned.nd rfl (Or.inl rfl)))
 (pss_one (ps_ret (pe_tup (pa_cons (pe_op op_cat (pe_ix (kix_tup (K := K)) (pv 0) pe_int (fun _ _ => rfl)) (pe_lst (pa_cons (pe_tup (pa_cons (pv 2) (pa_cons (pv 8) pa_nil))) pa_nil))) (pa_cons (pv 3) pa_nil)))))))), fun fr Qv hret => ?_⟩)
  obtain ⟨p_law_rows, p_law_place, p_law_word_here⟩ := x
  replace h : m__law_twinned p_law_rows p_law_place p_law_word_here Q X := h
  unfold m__law_twinned at h
  refine kn_seq (kn_asg (i := 3) (we_ownY (z3 yS (yL yS) (yL yS)) (wa_nil (⟨[], rfl, Nat.le_of_ble_eq_true rfl, fun a1 => ?_⟩))))
  refine kn_nrm (Γ' := [some (iz (z2 (yL (z2 yS zI)) (yL (z3 yS (yL yS) (yL yS)))) p_law_rows), some (iz yS p_law_place), some (iz yS p_law_word_here), some (zAt a1), none, none, none, none, none, none]) rfl ?_
  try dsimp only
  refine kn_seq (kn_forW (r := (z3 yS (yL yS) (yL yS))) (S := (List (Str × (List Str) × (List Str)))) (fun s2 => [some (iz (z2 (yL (z2 yS zI)) (yL (z3 yS (yL yS) (yL yS)))) p_law_rows), some (iz yS p_law_place), some (iz yS p_law_word_here), some (zAt a1), none, none, none, none, none, none]) (fun s2 => [cY a1 (z3 yS (yL yS) (yL yS)) s2]) ([]) (wi_yL (we_op (we_var rfl (we_cI (ops_ix21 (⟨_, _, _, rfl, fun e4 => ⟨_, _, _, _, _, rfl, rfl, (by and_intros), fun _ _ => tg3 (by decide) (by decide) (by decide), h, fun fr' le x3 s2 nx M hnx hbk h => ?_, fun s2 h => ?_⟩⟩)))))))
  · have hret := hret.fine le
    refine kn_seq (kn_asgL (i := 7) (r := (yL yS)) (we_ifP (r := (yL yS)) (wt_test (we_op (we_var rfl (we_var rfl (oy_inS sy_L (⟨_, rfl, ⟨_, _, fun _ => we_lstY (r := yS) (wa_cons (we_var rfl (wa_nil (⟨[p_law_word_here], rfl, Nat.le_of_ble_eq_true rfl, ⟨rfl, rfl⟩⟩)))), fun _ => we_lstY (r := yS) (wa_nil (⟨[], rfl, Nat.le_of_ble_eq_true rfl, ⟨rfl, rfl⟩⟩)), ⟨_, rfl, fun more5 emore5 => ?_⟩⟩⟩))))))))
    have h := h more5 emore5
    refine kn_nrm (Γ' := [some (iz (z2 (yL (z2 yS zI)) (yL (z3 yS (yL yS) (yL yS)))) p_law_rows), some (iz yS p_law_place), some (iz yS p_law_word_here), some (zAt a1), some (iz yS x3.1), some (iz (yL yS) x3.2.1), some (iz (yL yS) x3.2.2), some (iz (yL yS) more5), none, none]) rfl ?_
    try dsimp only
    refine kn_appY (i := 3) (j := 0) rfl rfl (we_tup (wa_cons (we_var rfl (wa_cons (we_op (we_var rfl (we_var rfl ?_)))))))
    obtain ⟨g6, h⟩ := h
    refine oy_cat g6 (wa_cons (we_op (we_var rfl (we_ifP (r := (yL yS)) (wt_test (we_op (we_var rfl (we_var rfl (oy_inS sy_L (⟨_, rfl, ⟨_, _, fun _ => we_lstY (r := yS) (wa_cons (we_var rfl (wa_nil (⟨[p_law_word_here], rfl, Nat.le_of_ble_eq_true rfl, ⟨rfl, rfl⟩⟩)))), fun _ => we_lstY (r := yS) (wa_nil (⟨[], rfl, Nat.le_of_ble_eq_true rfl, ⟨rfl, rfl⟩⟩)), ?_⟩⟩))))))))))
    obtain ⟨g7, h⟩ := h
    refine oy_cat g7 (wa_nil (⟨Nat.le_of_ble_eq_true rfl, iz (z3 yS (yL yS) (yL yS)) (x3.1, (x3.2.1 ++ more5), (x3.2.2 ++ (bif (decide (p_law_place ∈ x3.2.2)) then [p_law_word_here] else []))), tr3, ?_⟩))
    obtain ⟨g8, h⟩ := h
    refine ⟨_, rfl, rfl, g8, ?_⟩
    exact hnx (s2 ++ [(x3.1, (x3.2.1 ++ more5), (x3.2.2 ++ (bif (decide (p_law_place ∈ x3.2.2)) then [p_law_word_here] else [])))]) _ _ h (by and_intros) rfl
  try dsimp only
  refine kn_seq (kn_asg (i := 8) (we_op (we_lcP (r := (z2 yS zI)) (s := zI) (wi_yL (we_op (we_var rfl (we_cI (ops_ix20 (⟨_, _, _, rfl, fun e10 => ⟨_, fun x9 => (decide (x9.1 = p_law_place)), fun x9 => x9.2, _, rfl, rfl, e10, fun x9 => tg_name, fun x9 c => wt_test (we_op (we_op (we_var rfl (we_cI (ops_ix20 (we_var rfl (oy_eqS (⟨_, rfl, ⟨rfl, rfl⟩⟩)))))))), fun x9 c => we_op (we_var rfl (we_cI (ops_ix21 (⟨rfl, rfl⟩)))), we_cI ?_⟩⟩)))))))))
  obtain ⟨v11, ev11, h⟩ := h
  refine oy_ixL ev11 ?_
  refine kn_nrm (Γ' := [some (iz (z2 (yL (z2 yS zI)) (yL (z3 yS (yL yS) (yL yS)))) p_law_rows), some (iz yS p_law_place), some (iz yS p_law_word_here), some (zAt a1), none, none, none, none, some (iz zI v11), none]) rfl ?_
  try dsimp only
  refine kn_frzY (i := 3) (j := 0) rfl rfl ?_
  refine kn_ret (we_tup (wa_cons (we_op (we_op (we_var rfl (we_cI (ops_ix20 (we_lstY (r := (z2 yS zI)) (wa_cons (we_tup (wa_cons (we_var rfl (wa_cons (we_var rfl (wa_nil (⟨Nat.le_of_ble_eq_true rfl, iz (z2 yS zI) (p_law_word_here, v11), tr2, wa_nil (⟨[(p_law_word_here, v11)], rfl, Nat.le_of_ble_eq_true rfl, ?_⟩)⟩))))))))))))))))
  obtain ⟨g12, h⟩ := h
  refine oy_cat g12 (wa_cons (we_var rfl (wa_nil (⟨Nat.le_of_ble_eq_true rfl, iz (z2 (yL (z2 yS zI)) (yL (z3 yS (yL yS) (yL yS)))) ((p_law_rows.1 ++ [(p_law_word_here, v11)]), s2), tr2, ?_⟩))))
  exact hret _ h _
abbrev s__law_echoed : Stmt := topS 39
theorem sc__law_echoed : FnScope ["_law_rows", "_law_step", "_law_name", "_law_row", "_law_other"] ["_law_rows", "_law_step", "_law_name"] (defScope s__law_echoed) := ⟨rfl, rfl, rfl, by decide +kernel, rfl, by decide +kernel, by decide +kernel⟩
def m__law_echoed (p_law_rows : ((List (Str × Int)) × (List (Str × (List Str) × (List Str))))) (p_law_step : Str) (p_law_name : Str) : DM ((List (Str × Int)) × (List (Str × (List Str) × (List Str)))) := fun Q X =>
  ∃ v3, atI (((p_law_rows.2).filter fun x1 => (decide (x1.1 = p_law_step))).map (fun x1 => x1)) (0 : Int) = some v3 ∧
  (p_law_rows.2).length + ([(p_law_name, v3.2.1, v3.2.2)]).length ≤ big ∧
  Q (p_law_rows.1, (p_law_rows.2 ++ [(p_law_name, v3.2.1, v3.2.2)]))
theorem ok__law_echoed {k : Nat} {cs : EK → Addr} (B : Bl mg) 
    (F : Src K mg "_law_echoed" s__law_echoed ["_law_rows", "_law_step", "_law_name"]) : Def P w K mg base CX0 (k + 1) "_law_echoed" ["_law_rows", "_law_step", "_law_name"] (spA (preW (erW cs) (fun x : ((List (Str × Int)) × (List (Str × (List Str) × (List Str)))) × Str × Str => [iz (z2 (yL (z2 yS zI)) (yL (z3 yS (yL yS) (yL yS)))) x.1, iz yS x.2.1, iz yS x.2.2]) (z2 (yL (z2 yS zI)) (yL (z3 yS (yL yS) (yL yS)))) (fun x => m__law_echoed x.1 x.2.1 x.2.2))) := by
  refine F.okW sc__law_echoed (fun _ => rfl) (fun f cdv A outer s H E x Q X hr h => ⟨_, (pss_cons (ps_asg (pe_ix (kix_list (K := K)) (pe_lc (own := [("_law_other", 4)]) (g := gName 4) (by rfl) sc__law_echoed.nd (kpi_list (K := K) (pe_ix (kix_tup (K := K)) (pv 0) pe_int (fun _ _ => rfl))) (blkOk_by (N := ["_law_rows", "_law_step", "_law_name", "_law_row", "_law_other"]) (sc := defScope s__law_echoed) (by decide +kernel)) (fun _ _ _ _ _ => (pg_name (i := 4) sc__law_echoed.nd rfl (Or.inl rfl))) (fun _ _ _ _ _ => pts_one (pt_cmpR op_eq (pe_ix (kix_tup (K := K)) (pv 4) pe_int (fun _ _ => rfl)) (pv 1) (nomark _))) (fun _ _ _ _ _ => (pv 4))) pe_int (fun _ _ => rfl)) (pg_name (i := 3) sc__law_echoed.nd rfl (Or.inl rfl)))
 (pss_one (ps_ret (pe_tup (pa_cons (pe_callTy (kcall_list (K := K)) (by rfl) B.list' (by decide +kernel) (pa_cons (pe_ix (kix_tup (K := K)) (pv 0) pe_int (fun _ _ => rfl)) pa_nil)) (pa_cons (pe_op op_cat (pe_ix (kix_tup (K := K)) (pv 0) pe_int (fun _ _ => rfl)) (pe_lst (pa_cons (pe_tup (pa_cons (pv 2) (pa_cons (pe_callTy (kcall_list (K := K)) (by rfl) B.list' (by decide +kernel) (pa_cons (pe_ix (kix_tup (K := K)) (pv 3) pe_int (fun _ _ => rfl)) pa_nil)) (pa_cons (pe_callTy (kcall_list (K := K)) (by rfl) B.list' (by decide +kernel) (pa_cons (pe_ix (kix_tup (K := K)) (pv 3) pe_int (fun _ _ => rfl)) pa_nil)) pa_nil)))) pa_nil))) pa_nil)))))), fun fr Qv hret => ?_⟩)
  obtain ⟨p_law_rows, p_law_step, p_law_name⟩ := x
  replace h : m__law_echoed p_law_rows p_law_step p_law_name Q X := h
  unfold m__law_echoed at h
  refine kn_seq (kn_asg (i := 3) (we_op (we_lcP (r := (z3 yS (yL yS) (yL yS))) (s := (z3 yS (yL yS) (yL yS))) (wi_yL (we_op (we_var rfl (we_cI (ops_ix21 (⟨_, _, _, rfl, fun e2 => ⟨_, fun x1 => (decide (x1.1 = p_law_step)), fun x1 => x1, _, rfl, rfl, e2, fun x1 => tg_name, fun x1 c => wt_test (we_op (we_op (we_var rfl (we_cI (ops_ix30 (we_var rfl (oy_eqS (⟨_, rfl, ⟨rfl, rfl⟩⟩)))))))), fun x1 c => we_var rfl (⟨rfl, rfl⟩), we_cI ?_⟩⟩)))))))))
  obtain ⟨v3, ev3, h⟩ := h
  refine oy_ixL ev3 ?_
  refine kn_nrm (Γ' := [some (iz (z2 (yL (z2 yS zI)) (yL (z3 yS (yL yS) (yL yS)))) p_law_rows), some (iz yS p_law_step), some (iz yS p_law_name), some (iz (z3 yS (yL yS) (yL yS)) v3), none]) rfl ?_
  try dsimp only
  refine kn_ret (we_tup (wa_cons (we_cb (wa_cons (we_op (we_var rfl (we_cI (ops_ix20 (wa_nil (cy_list sy_L (wa_cons (we_op (we_op (we_var rfl (we_cI (ops_ix21 (we_lstY (r := (z3 yS (yL yS) (yL yS))) (wa_cons (we_tup (wa_cons (we_var rfl (wa_cons (we_cb (wa_cons (we_op (we_var rfl (we_cI (ops_ix31 (wa_nil (cy_list sy_L (wa_cons (we_cb (wa_cons (we_op (we_var rfl (we_cI (ops_ix32 (wa_nil (cy_list sy_L (wa_nil (⟨Nat.le_of_ble_eq_true rfl, iz (z3 yS (yL yS) (yL yS)) (p_law_name, v3.2.1, v3.2.2), tr3, wa_nil (⟨[(p_law_name, v3.2.1, v3.2.2)], rfl, Nat.le_of_ble_eq_true rfl, ?_⟩)⟩)))))))))))))))))))))))))))))))))))))))))
  obtain ⟨g4, h⟩ := h
  refine oy_cat g4 (wa_nil (⟨Nat.le_of_ble_eq_true rfl, iz (z2 (yL (z2 yS zI)) (yL (z3 yS (yL yS) (yL yS)))) (p_law_rows.1, (p_law_rows.2 ++ [(p_law_name, v3.2.1, v3.2.2)])), tr2, ?_⟩))
  exact hret _ h _
abbrev s__law_detoured : Stmt := topS 40
theorem sc__law_detoured : FnScope ["_law_rows", "_law_place", "_law_word_here", "_law_go", "_law_come"] ["_law_rows", "_law_place", "_law_word_here", "_law_go", "_law_come"] (defScope s__law_detoured) := ⟨rfl, rfl, rfl, by decide +kernel, rfl, by decide +kernel, by decide +kernel⟩
def m__law_detoured (p_law_rows : ((List (Str × Int)) × (List (Str × (List Str) × (List Str))))) (p_law_place : Str) (p_law_word_here : Str) (p_law_go : Str) (p_law_come : Str) : DM ((List (Str × Int)) × (List (Str × (List Str) × (List Str)))) := fun Q X =>
  (p_law_rows.1).length + ([(p_law_word_here, (0 : Int))]).length ≤ big ∧
  (p_law_rows.2).length + ([(p_law_go, [p_law_place], [p_law_word_here]), (p_law_come, [p_law_word_here], [p_law_place])]).length ≤ big ∧
  Q ((p_law_rows.1 ++ [(p_law_word_here, (0 : Int))]), (p_law_rows.2 ++ [(p_law_go, [p_law_place], [p_law_word_here]), (p_law_come, [p_law_word_here], [p_law_place])]))
theorem ok__law_detoured {k : Nat} {cs : EK → Addr} (B : Bl mg) 
    (F : Src K mg "_law_detoured" s__law_detoured ["_law_rows", "_law_place", "_law_word_here", "_law_go", "_law_come"]) : Def P w K mg base CX0 (k + 1) "_law_detoured" ["_law_rows", "_law_place", "_law_word_here", "_law_go", "_law_come"] (spA (preW (erW cs) (fun x : ((List (Str × Int)) × (List (Str × (List Str) × (List Str)))) × Str × Str × Str × Str => [iz (z2 (yL (z2 yS zI)) (yL (z3 yS (yL yS) (yL yS)))) x.1, iz yS x.2.1, iz yS x.2.2.1, iz yS x.2.2.2.1, iz yS x.2.2.2.2]) (z2 (yL (z2 yS zI)) (yL (z3 yS (yL yS) (yL yS)))) (fun x => m__law_detoured x.1 x.2.1 x.2.2.1 x.2.2.2.1 x.2.2.2.2))) := by
  refine F.okW sc__law_detoured (fun _ => rfl) (fun f cdv A outer s H E x Q X hr h => ⟨_, (pss_one (ps_ret (pe_tup (pa_cons (pe_op op_cat (pe_ix (kix_tup (K := K)) (pv 0) pe_int (fun _ _ => rfl)) (pe_lst (pa_cons (pe_tup (pa_cons (pv 2) (pa_cons pe_int pa_nil))) pa_nil))) (pa_cons (pe_op op_cat (pe_ix (kix_tup (K := K)) (pv 0) pe_int (fun _ _ => rfl)) (pe_lst (pa_cons (pe_tup (pa_cons (pv 3) (pa_cons (pe_lst (pa_cons (pv 1) pa_nil)) (pa_cons (pe_lst (pa_cons (pv 2) pa_nil)) pa_nil)))) (pa_cons (pe_tup (pa_cons (pv 4) (pa_cons (pe_lst (pa_cons (pv 2) pa_nil)) (pa_cons (pe_lst (pa_cons (pv 1) pa_nil)) pa_nil)))) pa_nil)))) pa_nil))))), fun fr Qv hret => ?_⟩)
  obtain ⟨p_law_rows, p_law_place, p_law_word_here, p_law_go, p_law_come⟩ := x
  replace h : m__law_detoured p_law_rows p_law_place p_law_word_here p_law_go p_law_come Q X := h
  unfold m__law_detoured at h
  refine kn_ret (we_tup (wa_cons (we_op (we_op (we_var rfl (we_cI (ops_ix20 (we_lstY (r := (z2 yS zI)) (wa_cons (we_tup (wa_cons (we_var rfl (wa_cons (we_cI (wa_nil (⟨Nat.le_of_ble_eq_true rfl, iz (z2 yS zI) (p_law_word_here, (0 : Int)), tr2, wa_nil (⟨[(p_law_word_here, (0 : Int))], rfl, Nat.le_of_ble_eq_true rfl, ?_⟩)⟩))))))))))))))))
  obtain ⟨g1, h⟩ := h
  refine oy_cat g1 (wa_cons (we_op (we_op (we_var rfl (we_cI (ops_ix21 (we_lstY (r := (z3 yS (yL yS) (yL yS))) (wa_cons (we_tup (wa_cons (we_var rfl (wa_cons (we_lstY (r := yS) (wa_cons (we_var rfl (wa_nil (⟨[p_law_place], rfl, Nat.le_of_ble_eq_true rfl, wa_cons (we_lstY (r := yS) (wa_cons (we_var rfl (wa_nil (⟨[p_law_word_here], rfl, Nat.le_of_ble_eq_true rfl, wa_nil (⟨Nat.le_of_ble_eq_true rfl, iz (z3 yS (yL yS) (yL yS)) (p_law_go, [p_law_place], [p_law_word_here]), tr3, wa_cons (we_tup (wa_cons (we_var rfl (wa_cons (we_lstY (r := yS) (wa_cons (we_var rfl (wa_nil (⟨[p_law_word_here], rfl, Nat.le_of_ble_eq_true rfl, wa_cons (we_lstY (r := yS) (wa_cons (we_var rfl (wa_nil (⟨[p_law_place], rfl, Nat.le_of_ble_eq_true rfl, wa_nil (⟨Nat.le_of_ble_eq_true rfl, iz (z3 yS (yL yS) (yL yS)) (p_law_come, [p_law_word_here], [p_law_place]), tr3, wa_nil (⟨[(p_law_go, [p_law_place], [p_law_word_here]), (p_law_come, [p_law_word_here], [p_law_place])], rfl, Nat.le_of_ble_eq_true rfl, ?_⟩)⟩)⟩)))))⟩)))))))))⟩)⟩)))))⟩)))))))))))))))))
  obtain ⟨g2, h⟩ := h
  refine oy_cat g2 (wa_nil (⟨Nat.le_of_ble_eq_true rfl, iz (z2 (yL (z2 yS zI)) (yL (z3 yS (yL yS) (yL yS)))) ((p_law_rows.1 ++ [(p_law_word_here, (0 : Int))]), (p_law_rows.2 ++ [(p_law_go, [p_law_place], [p_law_word_here]), (p_law_come, [p_law_word_here], [p_law_place])])), tr2, ?_⟩))
  exact hret _ h _
abbrev s__law_alone : Stmt := topS 41
theorem sc__law_alone : FnScope ["_law_rows", "_law_place", "_law_row"] ["_law_rows", "_law_place"] (defScope s__law_alone) := ⟨rfl, rfl, rfl, by decide +kernel, rfl, by decide +kernel, by decide +kernel⟩
def m__law_alone (p_law_rows : ((List (Str × Int)) × (List (Str × (List Str) × (List Str))))) (p_law_place : Str) : DM Bool := fun Q X =>
  Q (decide (((p_law_rows.2).filter fun x1 => ((decide (p_law_place ∈ x1.2.1)) && (decide (((x1.2.1).length : Int) > (1 : Int))))).map (fun x1 => x1) = []))
theorem ok__law_alone {k : Nat} {cs : EK → Addr} (B : Bl mg) 
    (F : Src K mg "_law_alone" s__law_alone ["_law_rows", "_law_place"]) : Def P w K mg base CX0 (k + 1) "_law_alone" ["_law_rows", "_law_place"] (spA (preW (erW cs) (fun x : ((List (Str × Int)) × (List (Str × (List Str) × (List Str)))) × Str => [iz (z2 (yL (z2 yS zI)) (yL (z3 yS (yL yS) (yL yS)))) x.1, iz yS x.2]) zB (fun x => m__law_alone x.1 x.2))) := by
  refine F.okW sc__law_alone (fun _ => rfl) (fun f cdv A outer s H E x Q X hr h => ⟨_, (pss_one (ps_ret (pe_cmpR (kop_eqD (K := K) hr.units) (pe_lc (own := [("_law_row", 2)]) (g := gName 2) (by rfl) sc__law_alone.nd (kpi_list (K := K) (pe_ix (kix_tup (K := K)) (pv 0) pe_int (fun _ _ => rfl))) (blkOk_by (N := ["_law_rows", "_law_place", "_law_row"]) (sc := defScope s__law_alone) (by decide +kernel)) (fun _ _ _ _ _ => (pg_name (i := 2) sc__law_alone.nd rfl (Or.inl rfl))) (fun _ _ _ _ _ => pts_one (PW.pt (pw_and (pt_cmpR (kop_in (K := K)) (pv 1) (pe_ix (kix_tup (K := K)) (pv 2) pe_int (fun _ _ => rfl)) rfl) (pw_and1 (pt_cmpR op_gt (pe_callB (kcall_len (K := K)) (by rfl) B.len PySem.boot_len (pa_cons (pe_ix (kix_tup (K := K)) (pv 2) pe_int (fun _ _ => rfl)) pa_nil)) pe_int (nomark _)))))) (fun _ _ _ _ _ => (pv 2))) (pe_lst pa_nil) (nomark _)))), fun fr Qv hret => ?_⟩)
  obtain ⟨p_law_rows, p_law_place⟩ := x
  replace h : m__law_alone p_law_rows p_law_place Q X := h
  unfold m__law_alone at h
  refine kn_ret (we_op (we_lcP (r := (z3 yS (yL yS) (yL yS))) (s := (z3 yS (yL yS) (yL yS))) (wi_yL (we_op (we_var rfl (we_cI (ops_ix21 (⟨_, _, _, rfl, fun e3 => ⟨_, fun x1 => ((decide (p_law_place ∈ x1.2.1)) && (decide (((x1.2.1).length : Int) > (1 : Int)))), fun x1 => x1, _, rfl, rfl, e3, fun x1 => tg_name, fun x1 c => wt_andP (wt_test (we_op (we_var rfl (we_op (we_var rfl (we_cI (ops_ix31 (oy_inS sy_L (⟨_, rfl, ⟨_, fun _ => wt_test (we_op (we_cb (wa_cons (we_op (we_var rfl (we_cI (ops_ix31 (wa_nil (cy_len sy_L (fun e2 => (we_cI (ops_B0 (⟨_, rfl, ⟨rfl, rfl⟩⟩))))))))))))), ⟨rfl, rfl⟩⟩⟩))))))))), fun x1 c => we_var rfl (⟨rfl, rfl⟩), we_lstY (r := (z3 yS (yL yS) (yL yS))) (wa_nil (⟨[], rfl, Nat.le_of_ble_eq_true rfl, ops_eqD (r := (yL (z3 yS (yL yS) (yL yS)))) (by decide) ?_⟩))⟩⟩))))))))
  exact hret _ h _
abbrev s__law_ring : Stmt := topS 42
theorem sc__law_ring : FnScope ["_law_box_here", "_law_size", "_law_words_here", "_law_names", "_law_places", "_law_word_here", "_law_k"] ["_law_box_here"] (defScope s__law_ring) := ⟨rfl, rfl, rfl, by decide +kernel, rfl, by decide +kernel, by decide +kernel⟩
def m__law_ring  : DM ((List (Str × Int)) × (List (Str × (List Str) × (List Str)))) := fun Q X =>
  m_draw (3 : Int) (fun v1 =>
  ∀ size2, size2 = ((1 : Int) + v1) →
  m__law_words size2 (fun v3 =>
  m__law_words size2 (fun v4 =>
  ∃ v5, atI v3 (0 : Int) = some v5 ∧
  m_draw (2 : Int) (fun v6 =>
  mapD (cutX v3 (some (1 : Int)) none) [] (fun x7 k8 =>
  m_draw (2 : Int) (fun v12 =>
  k8 (x7, v12)) noX) (fun ys9 =>
  ([(v5, ((1 : Int) + v6))]).length + (ys9).length ≤ big ∧
  ∀ places14, places14 = ([(v5, ((1 : Int) + v6))] ++ ys9) →
  (-100000 ≤ size2 ∧ size2 ≤ 100000) ∧
  mapD (intsF 0 (size2).toNat) [] (fun x15 k16 =>
  ∃ v20, atI v4 x15 = some v20 ∧
  ∃ v21, atI v3 x15 = some v21 ∧
  size2 ≠ 0 ∧
  ∃ v23, atI v3 (Int.fmod (x15 + (1 : Int)) size2) = some v23 ∧
  k16 (v20, [v21], [v23])) (fun ys17 =>
  Q (places14, ys17)))) noX) noX) noX) noX
theorem ok__law_ring {k : Nat} {cs : EK → Addr} (B : Bl mg) (D__law_draw : Def P w K mg base CX0 k "_law_draw" ["_law_box_here", "_law_limit"] (spC (preKN 1 (preBW (fun x : Int => [iz zI x]) zI m_draw)))) (D__law_words : Def P w K mg base CX0 k "_law_words" ["_law_box_here", "_law_many"] (spC (preKN 100000 (preBW (fun x : Int => [iz zI x]) (yL yS) (fun x => m__law_words x)))))
    (F : Src K mg "_law_ring" s__law_ring ["_law_box_here"]) : Def P w K mg base CX0 (k + 1) "_law_ring" ["_law_box_here"] (spC (preKN 300002 (preBW (fun x : Unit => []) (z2 (yL (z2 yS zI)) (yL (z3 yS (yL yS) (yL yS)))) (fun x => m__law_ring)))) := by
  refine F.okKN sc__law_ring (fun _ => rfl) (fun f cdv A outer s H E b l n x Q hN hr h => ⟨_, (pss_cons (ps_asg (pe_op op_add pe_int (pe_def D__law_draw hr pass0 (pa_cons (pv 0) (pa_cons pe_int pa_nil)))) (pg_name (i := 1) sc__law_ring.nd rfl (Or.inr rfl)))
 (pss_cons (ps_asg (pe_def D__law_words hr pass0 (pa_cons (pv 0) (pa_cons (pv 1) pa_nil))) (pg_name (i := 2) sc__law_ring.nd rfl (Or.inr rfl)))
 (pss_cons (ps_asg (pe_def D__law_words hr pass0 (pa_cons (pv 0) (pa_cons (pv 1) pa_nil))) (pg_name (i := 3) sc__law_ring.nd rfl (Or.inr rfl)))
 (pss_cons (ps_asg (pe_op op_cat (pe_lst (pa_cons (pe_tup (pa_cons (pe_ix (kix_list (K := K)) (pv 2) pe_int (fun _ _ => rfl)) (pa_cons (pe_op op_add pe_int (pe_def D__law_draw hr pass0 (pa_cons (pv 0) (pa_cons pe_int pa_nil)))) pa_nil))) pa_nil)) (pe_lc (own := [("_law_word_here", 5)]) (g := gName 5) (by rfl) sc__law_ring.nd (kpi_list (K := K) (pe_slice (ksl_list (K := K)) (pv 2) (po_some pe_int) po_none)) (blkOk_by (N := ["_law_box_here", "_law_size", "_law_words_here", "_law_names", "_law_places", "_law_word_here", "_law_k"]) (sc := defScope s__law_ring) (by decide +kernel)) (fun _ _ _ _ _ => (pg_name (i := 5) sc__law_ring.nd rfl (Or.inl rfl))) (fun _ _ _ _ _ => pts_nil) (fun _ _ _ _ _ => (pe_tup (pa_cons (pv 5) (pa_cons (pe_def D__law_draw hr pass0 (pa_cons (pv 0) (pa_cons pe_int pa_nil))) pa_nil)))))) (pg_name (i := 4) sc__law_ring.nd rfl (Or.inl rfl)))
 (pss_one (ps_ret (pe_tup (pa_cons (pv 4) (pa_cons (pe_lc (own := [("_law_k", 6)]) (g := gName 6) (by rfl) sc__law_ring.nd (pi_range1 (by rfl) B.range (pa_cons (pv 1) pa_nil)) (blkOk_by (N := ["_law_box_here", "_law_size", "_law_words_here", "_law_names", "_law_places", "_law_word_here", "_law_k"]) (sc := defScope s__law_ring) (by decide +kernel)) (fun _ _ _ _ _ => (pg_name (i := 6) sc__law_ring.nd rfl (Or.inl rfl))) (fun _ _ _ _ _ => pts_nil) (fun _ _ _ _ _ => (pe_tup (pa_cons (pe_ix (kix_list (K := K)) (pv 3) (pv 6) (fun _ _ => rfl)) (pa_cons (pe_lst (pa_cons (pe_ix (kix_list (K := K)) (pv 2) (pv 6) (fun _ _ => rfl)) pa_nil)) (pa_cons (pe_lst (pa_cons (pe_ix (kix_list (K := K)) (pv 2) (pe_op op_modN (pe_op op_add (pv 6) pe_int) (pv 1)) (fun _ _ => rfl)) pa_nil)) pa_nil)))))) pa_nil))))))))), fun fr Qv hret => ?_⟩)
  replace h : m__law_ring Q noX := h
  unfold m__law_ring at h
  refine kn_seq (kn_asgL (i := 1) (r := zI) (we_op (we_cI (we_callE (wa_cons (we_var rfl (wa_cons (we_cI (wa_nil ?_)))))))))
  refine sps_KN (j := 0) rfl (by have hb : big = 100000 := rfl; omega) (3 : Int) h (fun v1 h => ?_)
  try dsimp only [List.set]
  refine ops_I0 (⟨_, rfl, fun size2 esize2 => ?_⟩)
  have h := h size2 esize2
  refine kn_nrm (Γ' := [some (zAt b), some (iz zI size2), none, none, none, none, none]) rfl ?_
  try dsimp only
  refine kn_seq (kn_asg (i := 2) (we_callE (wa_cons (we_var rfl (wa_cons (we_var rfl (wa_nil ?_)))))))
  refine sps_KN (j := 0) rfl (by have hb : big = 100000 := rfl; omega) size2 h (fun v3 h => ?_)
  try dsimp only [List.set]
  refine kn_nrm (Γ' := [some (zAt b), some (iz zI size2), some (iz (yL yS) v3), none, none, none, none]) rfl ?_
  try dsimp only
  refine kn_seq (kn_asg (i := 3) (we_callE (wa_cons (we_var rfl (wa_cons (we_var rfl (wa_nil ?_)))))))
  refine sps_KN (j := 0) rfl (by have hb : big = 100000 := rfl; omega) size2 h (fun v4 h => ?_)
  try dsimp only [List.set]
  refine kn_nrm (Γ' := [some (zAt b), some (iz zI size2), some (iz (yL yS) v3), some (iz (yL yS) v4), none, none, none]) rfl ?_
  try dsimp only
  refine kn_seq (kn_asgL (i := 4) (r := (yL (z2 yS zI))) (we_op (we_lstY (r := (z2 yS zI)) (wa_cons (we_tup (wa_cons (we_op (we_var rfl (we_cI ?_)))))))))
  obtain ⟨v5, ev5, h⟩ := h
  refine oy_ixL ev5 (wa_cons (we_op (we_cI (we_callE (wa_cons (we_var rfl (wa_cons (we_cI (wa_nil ?_)))))))))
  refine sps_KN (j := 0) rfl (by have hb : big = 100000 := rfl; omega) (2 : Int) h (fun v6 h => ?_)
  try dsimp only [List.set]
  refine ops_I0 (wa_nil (⟨Nat.le_of_ble_eq_true rfl, iz (z2 yS zI) (v5, ((1 : Int) + v6)), tr2, wa_nil (⟨[(v5, ((1 : Int) + v6))], rfl, Nat.le_of_ble_eq_true rfl, we_lcMK (r := yS) (s := (z2 yS zI)) (wi_yL (we_sl (we_var rfl (wo_some (we_cI (⟨_, rfl, wo_none (sy_slL (⟨_, _, _, rfl, fun e10 => ⟨_, _, _, _, (fun i => [cBagC (((((n + 1) + 100000) + 100000) + 1) + i * 1) b l]), [cBagC (((((n + 1) + 100000) + 100000) + 1) + 100000) b l], rfl, .cons (.bag (by have hb : big = 100000 := rfl; omega)) (.nil), e10, fun _ => tg_name, h, fun i11 x7 c k8 hi11 h => ?_, .cons (.bag (by have hb : big = 100000 := rfl; have hl : ((cutX v3 (some (1 : Int)) none)).length ≤ big := e10; omega)) (.nil), fun ys9 h eys9 => ?_⟩⟩))⟩))))))⟩)⟩))
  · replace hi11 := Nat.lt_of_lt_of_le hi11 (show _ ≤ 100000 from e10)
    refine we_tup (wa_cons (we_var rfl (wa_cons (we_callE (wa_cons (we_var rfl (wa_cons (we_cI (wa_nil ?_)))))))))
    refine sps_KN (j := 1) rfl (by have hb : big = 100000 := rfl; omega) (2 : Int) h (fun v12 h => ?_)
    try dsimp only [List.set]
    refine wa_nil (⟨Nat.le_of_ble_eq_true rfl, iz (z2 yS zI) (x7, v12), tr2, ?_⟩)
    exact ⟨.cons (.refl _) (.cons (.bag (by have hb : big = 100000 := rfl; omega)) (.nil)), _, rfl, h⟩
  obtain ⟨g13, h⟩ := h
  refine oy_cat g13 (⟨_, rfl, fun places14 eplaces14 => ?_⟩)
  have h := h places14 eplaces14
  refine kn_nrm (Γ' := [some (zAt b), some (iz zI size2), some (iz (yL yS) v3), some (iz (yL yS) v4), some (iz (yL (z2 yS zI)) places14), none, none]) rfl ?_
  try dsimp only
  refine kn_ret (we_tup (wa_cons (we_var rfl (wa_cons (we_lcM (r := zI) (s := (z3 yS (yL yS) (yL yS))) (wi_range (wa_cons (we_var rfl (wa_nil ?_)))))))))
  obtain ⟨g18, h⟩ := h
  refine ⟨_, rfl, (by have hb : big = 100000 := rfl; omega), (by have hb : big = 100000 := rfl; omega), ⟨_, _, _, _, rfl, rfl, (intsF_big (by have hb : big = 100000 := rfl; omega)), fun _ => tg_name, h, fun x15 c k16 h => ?_, fun ys17 h eys17 => ?_⟩⟩
  · refine we_tup (wa_cons (we_op (we_var rfl (we_var rfl ?_))))
    obtain ⟨v20, ev20, h⟩ := h
    refine oy_ixL ev20 (wa_cons (we_lstY (r := yS) (wa_cons (we_op (we_var rfl (we_var rfl ?_))))))
    obtain ⟨v21, ev21, h⟩ := h
    refine oy_ixL ev21 (wa_nil (⟨[v21], rfl, Nat.le_of_ble_eq_true rfl, wa_cons (we_lstY (r := yS) (wa_cons (we_op (we_var rfl (we_op (we_op (we_var rfl (we_cI (ops_I0 (we_var rfl ?_))))))))))⟩))
    obtain ⟨g22, h⟩ := h
    refine ops_IC (C := fun _ j => j ≠ 0) g22 ?_
    obtain ⟨v23, ev23, h⟩ := h
    refine oy_ixL ev23 (wa_nil (⟨[v23], rfl, Nat.le_of_ble_eq_true rfl, wa_nil (⟨Nat.le_of_ble_eq_true rfl, iz (z3 yS (yL yS) (yL yS)) (v20, [v21], [v23]), tr3, ?_⟩)⟩))
    exact ⟨rfl, _, rfl, h⟩
  refine wa_nil (⟨Nat.le_of_ble_eq_true rfl, iz (z2 (yL (z2 yS zI)) (yL (z3 yS (yL yS) (yL yS)))) (places14, ys17), tr2, ?_⟩)
  exact hret _ h _ _ (by have hb : big = 100000 := rfl; omega) (List.mem_of_getElem? (i := 0) rfl)
abbrev s__law_grown : Stmt := topS 43
theorem sc__law_grown : FnScope ["_law_box_here", "_law_most", "_law_rows", "_law_turn", "_law_deed", "_law_place", "_law_step", "_law_word_here", "_law_name", "_law_first", "_law_last", "_law_row"] ["_law_box_here", "_law_most"] (defScope s__law_grown) := ⟨rfl, rfl, rfl, by decide +kernel, rfl, by decide +kernel, by decide +kernel⟩
def m__law_grown (p_law_most : Int) : DM ((List (Str × Int)) × (List (Str × (List Str) × (List Str)))) := fun Q X =>
  m__law_ring  (fun v1 =>
  m_draw (p_law_most + (1 : Int)) (fun v5 =>
  (-100000 ≤ v5 ∧ v5 ≤ 100000) ∧
  forD (intsF 0 (v5).toNat) v1 (fun x3 s2 nx bk =>
  m_draw (4 : Int) (fun v7 =>
  m_draw ((s2.1).length : Int) (fun v9 =>
  ∃ v10, atI s2.1 v9 = some v10 ∧
  m_draw ((s2.2).length : Int) (fun v12 =>
  ∃ v13, atI s2.2 v12 = some v13 ∧
  m__law_fresh ((s2.1).map fun x14 => x14.1) (fun v16 =>
  m__law_fresh ((s2.2).map fun x17 => x17.1) (fun v19 =>
  ifD (decide (v7 = (0 : Int))) (
  m__law_stretched s2 v10.1 v16 v19 (fun v20 =>
  nx v20) noX) (
  ifD (decide (v7 = (1 : Int))) (
  m__law_twinned s2 v10.1 v16 (fun v21 =>
  nx v21) noX) (
  orD (decide (v7 = (2 : Int))) (fun k23 => m__law_alone s2 v10.1 (fun v24 =>
  k23 (!v24)) noX) (fun c22 =>
  ifD c22 (
  m__law_echoed s2 v13.1 v19 (fun v25 =>
  nx v25) noX) (
  ([v19]).length + (((s2.2).map fun x26 => x26.1)).length ≤ big ∧
  m__law_fresh ([v19] ++ ((s2.2).map fun x26 => x26.1)) (fun v29 =>
  m__law_detoured s2 v10.1 v16 v19 v29 (fun v30 =>
  nx v30) noX) noX))))) noX) noX) noX) noX) noX) (fun s2 =>
  m_draw ((s2.1).length : Int) (fun v32 =>
  m_draw ((s2.2).length : Int) (fun v34 =>
  ((cutX s2.1 (some v32) none)).length + ((cutX s2.1 none (some v32))).length ≤ big ∧
  ((cutX s2.2 (some v34) none)).length + ((cutX s2.2 none (some v34))).length ≤ big ∧
  Q (((cutX s2.1 (some v32) none) ++ (cutX s2.1 none (some v32))), ((cutX s2.2 (some v34) none) ++ (cutX s2.2 none (some v34))))) noX) noX)) noX) noX
theorem ok__law_grown {k : Nat} {cs : EK → Addr} (B : Bl mg) (D__law_ring : Def P w K mg base CX0 k "_law_ring" ["_law_box_here"] (spC (preKN 300002 (preBW (fun x : Unit => []) (z2 (yL (z2 yS zI)) (yL (z3 yS (yL yS) (yL yS)))) (fun x => m__law_ring))))) (D__law_draw : Def P w K mg base CX0 k "_law_draw" ["_law_box_here", "_law_limit"] (spC (preKN 1 (preBW (fun x : Int => [iz zI x]) zI m_draw)))) (D__law_fresh : Def P w K mg base CX0 k "_law_fresh" ["_law_box_here", "_law_used"] (spC (preKN 1 (preBW (fun x : (List Str) => [iz (yL yS) x]) yS (fun x => m__law_fresh x))))) (D__law_stretched : Def P w K mg base CX0 k "_law_stretched" ["_law_rows", "_law_place", "_law_word_here", "_law_name"] (spA (preW (erW cs) (fun x : ((List (Str × Int)) × (List (Str × (List Str) × (List Str)))) × Str × Str × Str => [iz (z2 (yL (z2 yS zI)) (yL (z3 yS (yL yS) (yL yS)))) x.1, iz yS x.2.1, iz yS x.2.2.1, iz yS x.2.2.2]) (z2 (yL (z2 yS zI)) (yL (z3 yS (yL yS) (yL yS)))) (fun x => m__law_stretched x.1 x.2.1 x.2.2.1 x.2.2.2)))) (D__law_twinned : Def P w K mg base CX0 k "_law_twinned" ["_law_rows", "_law_place", "_law_word_here"] (spA (preW (erW cs) (fun x : ((List (Str × Int)) × (List (Str × (List Str) × (List Str)))) × Str × Str => [iz (z2 (yL (z2 yS zI)) (yL (z3 yS (yL yS) (yL yS)))) x.1, iz yS x.2.1, iz yS x.2.2]) (z2 (yL (z2 yS zI)) (yL (z3 yS (yL yS) (yL yS)))) (fun x => m__law_twinned x.1 x.2.1 x.2.2)))) (D__law_alone : Def P w K mg base CX0 k "_law_alone" ["_law_rows", "_law_place"] (spA (preW (erW cs) (fun x : ((List (Str × Int)) × (List (Str × (List Str) × (List Str)))) × Str => [iz (z2 (yL (z2 yS zI)) (yL (z3 yS (yL yS) (yL yS)))) x.1, iz yS x.2]) zB (fun x => m__law_alone x.1 x.2)))) (D__law_echoed : Def P w K mg base CX0 k "_law_echoed" ["_law_rows", "_law_step", "_law_name"] (spA (preW (erW cs) (fun x : ((List (Str × Int)) × (List (Str × (List Str) × (List Str)))) × Str × Str => [iz (z2 (yL (z2 yS zI)) (yL (z3 yS (yL yS) (yL yS)))) x.1, iz yS x.2.1, iz yS x.2.2]) (z2 (yL (z2 yS zI)) (yL (z3 yS (yL yS) (yL yS)))) (fun x => m__law_echoed x.1 x.2.1 x.2.2)))) (D__law_detoured : Def P w K mg base CX0 k "_law_detoured" ["_law_rows", "_law_place", "_law_word_here", "_law_go", "_law_come"] (spA (preW (erW cs) (fun x : ((List (Str × Int)) × (List (Str × (List Str) × (List Str)))) × Str × Str × Str × Str => [iz (z2 (yL (z2 yS zI)) (yL (z3 yS (yL yS) (yL yS)))) x.1, iz yS x.2.1, iz yS x.2.2.1, iz yS x.2.2.2.1, iz yS x.2.2.2.2]) (z2 (yL (z2 yS zI)) (yL (z3 yS (yL yS) (yL yS)))) (fun x => m__law_detoured x.1 x.2.1 x.2.2.1 x.2.2.2.1 x.2.2.2.2))))
    (F : Src K mg "_law_grown" s__law_grown ["_law_box_here", "_law_most"]) : Def P w K mg base CX0 (k + 1) "_law_grown" ["_law_box_here", "_law_most"] (spC (preKN 900005 (preBW (fun x : Int => [iz zI x]) (z2 (yL (z2 yS zI)) (yL (z3 yS (yL yS) (yL yS)))) (fun x => m__law_grown x)))) := by
  refine F.okKN sc__law_grown (fun _ => rfl) (fun f cdv A outer s H E b l n p_law_most Q hN hr h => ⟨_, (pss_cons (ps_asg (pe_def D__law_ring hr pass0 (pa_cons (pv 0) pa_nil)) (pg_name (i := 2) sc__law_grown.nd rfl (Or.inl rfl)))
 (pss_cons (ps_for PassesOwn.never rfl (pi_range1 (by rfl) B.range (pa_cons (pe_def D__law_draw hr pass0 (pa_cons (pv 0) (pa_cons (pe_op op_add (pv 1) pe_int) pa_nil))) pa_nil)) (pg_name (i := 3) sc__law_grown.nd rfl (Or.inl rfl)) (pss_cons (ps_asg (pe_def D__law_draw hr pass0 (pa_cons (pv 0) (pa_cons pe_int pa_nil))) (pg_name (i := 4) sc__law_grown.nd rfl (Or.inl rfl)))
 (pss_cons (ps_asg (pe_ix (kix_tup (K := K)) (pe_ix (kix_list (K := K)) (pe_ix (kix_tup (K := K)) (pv 2) pe_int (fun _ _ => rfl)) (pe_def D__law_draw hr pass0 (pa_cons (pv 0) (pa_cons (pe_callB (kcall_len (K := K)) (by rfl) B.len PySem.boot_len (pa_cons (pe_ix (kix_tup (K := K)) (pv 2) pe_int (fun _ _ => rfl)) pa_nil)) pa_nil))) (fun _ _ => rfl)) pe_int (fun _ _ => rfl)) (pg_name (i := 5) sc__law_grown.nd rfl (Or.inl rfl)))
 (pss_cons (ps_asg (pe_ix (kix_tup (K := K)) (pe_ix (kix_list (K := K)) (pe_ix (kix_tup (K := K)) (pv 2) pe_int (fun _ _ => rfl)) (pe_def D__law_draw hr pass0 (pa_cons (pv 0) (pa_cons (pe_callB (kcall_len (K := K)) (by rfl) B.len PySem.boot_len (pa_cons (pe_ix (kix_tup (K := K)) (pv 2) pe_int (fun _ _ => rfl)) pa_nil)) pa_nil))) (fun _ _ => rfl)) pe_int (fun _ _ => rfl)) (pg_name (i := 6) sc__law_grown.nd rfl (Or.inl rfl)))
 (pss_cons (ps_asg (pe_def D__law_fresh hr pass0 (pa_cons (pv 0) (pa_cons (pe_lc (own := [("_law_row", 11)]) (g := gName 11) (by rfl) sc__law_grown.nd (kpi_list (K := K) (pe_ix (kix_tup (K := K)) (pv 2) pe_int (fun _ _ => rfl))) (blkOk_by (N := ["_law_box_here", "_law_most", "_law_rows", "_law_turn", "_law_deed", "_law_place", "_law_step", "_law_word_here", "_law_name", "_law_first", "_law_last", "_law_row"]) (sc := defScope s__law_grown) (by decide +kernel)) (fun _ _ _ _ _ => (pg_name (i := 11) sc__law_grown.nd rfl (Or.inl rfl))) (fun _ _ _ _ _ => pts_nil) (fun _ _ _ _ _ => (pe_ix (kix_tup (K := K)) (pv 11) pe_int (fun _ _ => rfl)))) pa_nil))) (pg_name (i := 7) sc__law_grown.nd rfl (Or.inl rfl)))
 (pss_cons (ps_asg (pe_def D__law_fresh hr pass0 (pa_cons (pv 0) (pa_cons (pe_lc (own := [("_law_row", 11)]) (g := gName 11) (by rfl) sc__law_grown.nd (kpi_list (K := K) (pe_ix (kix_tup (K := K)) (pv 2) pe_int (fun _ _ => rfl))) (blkOk_by (N := ["_law_box_here", "_law_most", "_law_rows", "_law_turn", "_law_deed", "_law_place", "_law_step", "_law_word_here", "_law_name", "_law_first", "_law_last", "_law_row"]) (sc := defScope s__law_grown) (by decide +kernel)) (fun _ _ _ _ _ => (pg_name (i := 11) sc__law_grown.nd rfl (Or.inl rfl))) (fun _ _ _ _ _ => pts_nil) (fun _ _ _ _ _ => (pe_ix (kix_tup (K := K)) (pv 11) pe_int (fun _ _ => rfl)))) pa_nil))) (pg_name (i := 8) sc__law_grown.nd rfl (Or.inl rfl)))
 (pss_one (ps_if (pt_cmpR op_eq (pv 4) pe_int (nomark _)) (pss_one (ps_asg (pe_def D__law_stretched hr pass0 (pa_cons (pv 2) (pa_cons (pv 5) (pa_cons (pv 7) (pa_cons (pv 8) pa_nil))))) (pg_name (i := 2) sc__law_grown.nd rfl (Or.inl rfl)))) (pss_one (ps_if (pt_cmpR op_eq (pv 4) pe_int (nomark _)) (pss_one (ps_asg (pe_def D__law_twinned hr pass0 (pa_cons (pv 2) (pa_cons (pv 5) (pa_cons (pv 7) pa_nil)))) (pg_name (i := 2) sc__law_grown.nd rfl (Or.inl rfl)))) (pss_one (ps_if (PW.pt (pw_or (pt_cmpR op_eq (pv 4) pe_int (nomark _)) (pw_or1 (pt_not (pt_val (pe_def D__law_alone hr pass0 (pa_cons (pv 2) (pa_cons (pv 5) pa_nil)))))))) (pss_one (ps_asg (pe_def D__law_echoed hr pass0 (pa_cons (pv 2) (pa_cons (pv 6) (pa_cons (pv 8) pa_nil)))) (pg_name (i := 2) sc__law_grown.nd rfl (Or.inl rfl)))) (pss_one (ps_asg (pe_def D__law_detoured hr pass0 (pa_cons (pv 2) (pa_cons (pv 5) (pa_cons (pv 7) (pa_cons (pv 8) (pa_cons (pe_def D__law_fresh hr pass0 (pa_cons (pv 0) (pa_cons (pe_op op_cat (pe_lst (pa_cons (pv 8) pa_nil)) (pe_lc (own := [("_law_row", 11)]) (g := gName 11) (by rfl) sc__law_grown.nd (kpi_list (K := K) (pe_ix (kix_tup (K := K)) (pv 2) pe_int (fun _ _ => rfl))) (blkOk_by (N := ["_law_box_here", "_law_most", "_law_rows", "_law_turn", "_law_deed", "_law_place", "_law_step", "_law_word_here", "_law_name", "_law_first", "_law_last", "_law_row"]) (sc := defScope s__law_grown) (by decide +kernel)) (fun _ _ _ _ _ => (pg_name (i := 11) sc__law_grown.nd rfl (Or.inl rfl))) (fun _ _ _ _ _ => pts_nil) (fun _ _ _ _ _ => (pe_ix (kix_tup (K := K)) (pv 11) pe_int (fun _ _ => rfl))))) pa_nil))) pa_nil)))))) (pg_name (i := 2) sc__law_grown.nd rfl (Or.inl rfl))))))))))))))))
 (pss_cons (ps_asg (pe_def D__law_draw hr pass0 (pa_cons (pv 0) (pa_cons (pe_callB (kcall_len (K := K)) (by rfl) B.len PySem.boot_len (pa_cons (pe_ix (kix_tup (K := K)) (pv 2) pe_int (fun _ _ => rfl)) pa_nil)) pa_nil))) (pg_name (i := 9) sc__law_grown.nd rfl (Or.inl rfl)))
 (pss_cons (ps_asg (pe_def D__law_draw hr pass0 (pa_cons (pv 0) (pa_cons (pe_callB (kcall_len (K := K)) (by rfl) B.len PySem.boot_len (pa_cons (pe_ix (kix_tup (K := K)) (pv 2) pe_int (fun _ _ => rfl)) pa_nil)) pa_nil))) (pg_name (i := 10) sc__law_grown.nd rfl (Or.inl rfl)))
 (pss_one (ps_ret (pe_tup (pa_cons (pe_op op_cat (pe_slice (ksl_list (K := K)) (pe_ix (kix_tup (K := K)) (pv 2) pe_int (fun _ _ => rfl)) (po_some (pv 9)) po_none) (pe_slice (ksl_list (K := K)) (pe_ix (kix_tup (K := K)) (pv 2) pe_int (fun _ _ => rfl)) po_none (po_some (pv 9)))) (pa_cons (pe_op op_cat (pe_slice (ksl_list (K := K)) (pe_ix (kix_tup (K := K)) (pv 2) pe_int (fun _ _ => rfl)) (po_some (pv 10)) po_none) (pe_slice (ksl_list (K := K)) (pe_ix (kix_tup (K := K)) (pv 2) pe_int (fun _ _ => rfl)) po_none (po_some (pv 10)))) pa_nil))))))))), fun fr Qv hret => ?_⟩)
  replace h : m__law_grown p_law_most Q noX := h
  unfold m__law_grown at h
  refine kn_seq (kn_asg (i := 2) (we_callE (wa_cons (we_var rfl (wa_nil ?_)))))
  refine sps_KN (j := 0) rfl (by have hb : big = 100000 := rfl; omega) () h (fun v1 h => ?_)
  try dsimp only [List.set]
  refine kn_nrm (Γ' := [some (zAt b), some (iz zI p_law_most), some (iz (z2 (yL (z2 yS zI)) (yL (z3 yS (yL yS) (yL yS)))) v1), none, none, none, none, none, none, none, none, none]) rfl ?_
  try dsimp only
  refine kn_seq (kn_forK (r := zI) (S := ((List (Str × Int)) × (List (Str × (List Str) × (List Str))))) (fun s2 => [some (zAt b), some (iz zI p_law_most), some (iz (z2 (yL (z2 yS zI)) (yL (z3 yS (yL yS) (yL yS)))) s2), none, none, none, none, none, none, none, none, none]) (fun i s2 => [cBagC (((n + 300002) + 1) + i * 6) b l]) (fun s2 => [cBagC (((n + 300002) + 1) + 600000) b l]) v1 (wi_range (wa_cons (we_callE (wa_cons (we_var rfl (wa_cons (we_op (we_var rfl (we_cI (ops_I0 (wa_nil ?_))))))))))))
  refine sps_KN (j := 0) rfl (by have hb : big = 100000 := rfl; omega) (p_law_most + (1 : Int)) h (fun v5 h => ?_)
  try dsimp only [List.set]
  refine wa_nil ?_
  obtain ⟨g6, h⟩ := h
  refine ⟨_, rfl, (by have hb : big = 100000 := rfl; omega), (by have hb : big = 100000 := rfl; omega), ⟨_, _, _, _, _, rfl, .cons (.bag (by have hb : big = 100000 := rfl; omega)) (.nil), (by and_intros), fun _ _ => tg_name, h, fun fr' le i4 x3 s2 nx M hi4 hnx hbk h => ?_, fun s2 => .cons (.bag (by have hb : big = 100000 := rfl; have hl : ((intsF 0 (v5).toNat)).length ≤ big := (intsF_big (by have hb : big = 100000 := rfl; omega)); omega)) (.nil), fun s2 h => ?_⟩⟩
  · replace hi4 := Nat.lt_of_lt_of_le hi4 (show _ ≤ 100000 from (intsF_big (by have hb : big = 100000 := rfl; omega)))
    have hret := hret.fine le
    refine kn_seq (kn_asg (i := 4) (we_callE (wa_cons (we_var rfl (wa_cons (we_cI (wa_nil ?_)))))))
    refine sps_KN (j := 0) rfl (by have hb : big = 100000 := rfl; omega) (4 : Int) h (fun v7 h => ?_)
    try dsimp only [List.set]
    refine kn_nrm (Γ' := [some (zAt b), some (iz zI p_law_most), some (iz (z2 (yL (z2 yS zI)) (yL (z3 yS (yL yS) (yL yS)))) s2), some (iz zI x3), some (iz zI v7), none, none, none, none, none, none, none]) rfl ?_
    try dsimp only
    refine kn_seq (kn_asg (i := 5) (we_op (we_op (we_op (we_var rfl (we_cI (ops_ix20 (we_callE (wa_cons (we_var rfl (wa_cons (we_cb (wa_cons (we_op (we_var rfl (we_cI (ops_ix20 (wa_nil (cy_len sy_L (fun e8 => (wa_nil ?_)))))))))))))))))))))
    refine sps_KN (j := 0) rfl (by have hb : big = 100000 := rfl; omega) ((s2.1).length : Int) h (fun v9 h => ?_)
    try dsimp only [List.set]
    obtain ⟨v10, ev10, h⟩ := h
    refine oy_ixL ev10 (we_cI (ops_ix20 ?_))
    refine kn_nrm (Γ' := [some (zAt b), some (iz zI p_law_most), some (iz (z2 (yL (z2 yS zI)) (yL (z3 yS (yL yS) (yL yS)))) s2), some (iz zI x3), some (iz zI v7), some (iz yS v10.1), none, none, none, none, none, none]) rfl ?_
    try dsimp only
    refine kn_seq (kn_asg (i := 6) (we_op (we_op (we_op (we_var rfl (we_cI (ops_ix21 (we_callE (wa_cons (we_var rfl (wa_cons (we_cb (wa_cons (we_op (we_var rfl (we_cI (ops_ix21 (wa_nil (cy_len sy_L (fun e11 => (wa_nil ?_)))))))))))))))))))))
    refine sps_KN (j := 0) rfl (by have hb : big = 100000 := rfl; omega) ((s2.2).length : Int) h (fun v12 h => ?_)
    try dsimp only [List.set]
    obtain ⟨v13, ev13, h⟩ := h
    refine oy_ixL ev13 (we_cI (ops_ix30 ?_))
    refine kn_nrm (Γ' := [some (zAt b), some (iz zI p_law_most), some (iz (z2 (yL (z2 yS zI)) (yL (z3 yS (yL yS) (yL yS)))) s2), some (iz zI x3), some (iz zI v7), some (iz yS v10.1), some (iz yS v13.1), none, none, none, none, none]) rfl ?_
    try dsimp only
    refine kn_seq (kn_asg (i := 7) (we_callE (wa_cons (we_var rfl (wa_cons (we_lcM0 (r := (z2 yS zI)) (s := yS) (wi_yL (we_op (we_var rfl (we_cI (ops_ix20 (⟨_, _, _, rfl, fun e15 => ⟨_, fun x14 => x14.1, _, rfl, rfl, e15, fun x14 => tg_name, fun x14 c => we_op (we_var rfl (we_cI (ops_ix20 (⟨rfl, rfl⟩)))), wa_nil ?_⟩⟩))))))))))))
    refine sps_KN (j := 0) rfl (by have hb : big = 100000 := rfl; omega) ((s2.1).map fun x14 => x14.1) h (fun v16 h => ?_)
    try dsimp only [List.set]
    refine kn_nrm (Γ' := [some (zAt b), some (iz zI p_law_most), some (iz (z2 (yL (z2 yS zI)) (yL (z3 yS (yL yS) (yL yS)))) s2), some (iz zI x3), some (iz zI v7), some (iz yS v10.1), some (iz yS v13.1), some (iz yS v16), none, none, none, none]) rfl ?_
    try dsimp only
    refine kn_seq (kn_asg (i := 8) (we_callE (wa_cons (we_var rfl (wa_cons (we_lcM0 (r := (z3 yS (yL yS) (yL yS))) (s := yS) (wi_yL (we_op (we_var rfl (we_cI (ops_ix21 (⟨_, _, _, rfl, fun e18 => ⟨_, fun x17 => x17.1, _, rfl, rfl, e18, fun x17 => tg_name, fun x17 c => we_op (we_var rfl (we_cI (ops_ix30 (⟨rfl, rfl⟩)))), wa_nil ?_⟩⟩))))))))))))
    refine sps_KN (j := 0) rfl (by have hb : big = 100000 := rfl; omega) ((s2.2).map fun x17 => x17.1) h (fun v19 h => ?_)
    try dsimp only [List.set]
    refine kn_nrm (Γ' := [some (zAt b), some (iz zI p_law_most), some (iz (z2 (yL (z2 yS zI)) (yL (z3 yS (yL yS) (yL yS)))) s2), some (iz zI x3), some (iz zI v7), some (iz yS v10.1), some (iz yS v13.1), some (iz yS v16), some (iz yS v19), none, none, none]) rfl ?_
    try dsimp only
    refine kn_if (wt_test (we_op (we_var rfl (we_cI (ops_eqI (⟨_, rfl, ⟨fun hc => ?_, fun hc => ?_⟩⟩))))))
    · have h := h.1 hc
      refine kn_asg (i := 2) (we_callE (wa_cons (we_var rfl (wa_cons (we_var rfl (wa_cons (we_var rfl (wa_cons (we_var rfl (wa_nil ?_))))))))))
      refine sps_W0 (s2, v10.1, v16, v19) h (fun v20 h => ?_)
      exact hnx v20 _ _ h (by and_intros) (.cons (.bag (by have hb : big = 100000 := rfl; omega)) (.nil))
    · have h := h.2 hc
      refine kn_if (wt_test (we_op (we_var rfl (we_cI (ops_eqI (⟨_, rfl, ⟨fun hc => ?_, fun hc => ?_⟩⟩))))))
      · have h := h.1 hc
        refine kn_asg (i := 2) (we_callE (wa_cons (we_var rfl (wa_cons (we_var rfl (wa_cons (we_var rfl (wa_nil ?_))))))))
        refine sps_W0 (s2, v10.1, v16) h (fun v21 h => ?_)
        exact hnx v21 _ _ h (by and_intros) (.cons (.bag (by have hb : big = 100000 := rfl; omega)) (.nil))
      · have h := h.2 hc
        refine kn_if (wt_orC (wt_test (we_op (we_var rfl (we_cI (ops_eqI (⟨_, rfl, ?_⟩)))))))
        refine orK h (fun h => ?_) (fun c22 h => ?_)
        · refine wt_not (wt_b (we_callE (wa_cons (we_var rfl (wa_cons (we_var rfl (wa_nil ?_)))))))
          refine sps_W0 (s2, v10.1) h (fun v24 h => ?_)
          refine ⟨_, rfl, ?_⟩
          exact ⟨rfl, h⟩
        refine ⟨fun hc => ?_, fun hc => ?_⟩
        · have h := h.1 hc
          refine kn_asg (i := 2) (we_callE (wa_cons (we_var rfl (wa_cons (we_var rfl (wa_cons (we_var rfl (wa_nil ?_))))))))
          refine sps_W0 (s2, v13.1, v19) h (fun v25 h => ?_)
          exact hnx v25 _ _ h (by and_intros) (.cons (.bag (by have hb : big = 100000 := rfl; omega)) (.nil))
        · have h := h.2 hc
          refine kn_asg (i := 2) (we_callE (wa_cons (we_var rfl (wa_cons (we_var rfl (wa_cons (we_var rfl (wa_cons (we_var rfl (wa_cons (we_callE (wa_cons (we_var rfl (wa_cons (we_op (we_lstY (r := yS) (wa_cons (we_var rfl (wa_nil (⟨[v19], rfl, Nat.le_of_ble_eq_true rfl, we_lcM0 (r := (z3 yS (yL yS) (yL yS))) (s := yS) (wi_yL (we_op (we_var rfl (we_cI (ops_ix21 (⟨_, _, _, rfl, fun e27 => ⟨_, fun x26 => x26.1, _, rfl, rfl, e27, fun x26 => tg_name, fun x26 c => we_op (we_var rfl (we_cI (ops_ix30 (⟨rfl, rfl⟩)))), ?_⟩⟩))))))⟩))))))))))))))))))))
          obtain ⟨g28, h⟩ := h
          refine oy_cat g28 (wa_nil ?_)
          refine sps_KN (j := 0) rfl (by have hb : big = 100000 := rfl; omega) ([v19] ++ ((s2.2).map fun x26 => x26.1)) h (fun v29 h => ?_)
          try dsimp only [List.set]
          refine wa_nil ?_
          refine sps_W0 (s2, v10.1, v16, v19, v29) h (fun v30 h => ?_)
          exact hnx v30 _ _ h (by and_intros) (.cons (.bag (by have hb : big = 100000 := rfl; omega)) (.nil))
  try dsimp only
  refine kn_seq (kn_asg (i := 9) (we_callE (wa_cons (we_var rfl (wa_cons (we_cb (wa_cons (we_op (we_var rfl (we_cI (ops_ix20 (wa_nil (cy_len sy_L (fun e31 => (wa_nil ?_)))))))))))))))
  refine sps_KN (j := 0) rfl (by have hb : big = 100000 := rfl; omega) ((s2.1).length : Int) h (fun v32 h => ?_)
  try dsimp only [List.set]
  refine kn_nrm (Γ' := [some (zAt b), some (iz zI p_law_most), some (iz (z2 (yL (z2 yS zI)) (yL (z3 yS (yL yS) (yL yS)))) s2), none, none, none, none, none, none, some (iz zI v32), none, none]) rfl ?_
  try dsimp only
  refine kn_seq (kn_asg (i := 10) (we_callE (wa_cons (we_var rfl (wa_cons (we_cb (wa_cons (we_op (we_var rfl (we_cI (ops_ix21 (wa_nil (cy_len sy_L (fun e33 => (wa_nil ?_)))))))))))))))
  refine sps_KN (j := 0) rfl (by have hb : big = 100000 := rfl; omega) ((s2.2).length : Int) h (fun v34 h => ?_)
  try dsimp only [List.set]
  refine kn_nrm (Γ' := [some (zAt b), some (iz zI p_law_most), some (iz (z2 (yL (z2 yS zI)) (yL (z3 yS (yL yS) (yL yS)))) s2), none, none, none, none, none, none, some (iz zI v32), some (iz zI v34), none]) rfl ?_
  try dsimp only
  refine kn_ret (we_tup (wa_cons (we_op (we_sl (we_op (we_var rfl (we_cI (ops_ix20 (wo_some (we_var rfl (⟨_, rfl, wo_none (sy_slL (we_sl (we_op (we_var rfl (we_cI (ops_ix20 (wo_none (wo_some (we_var rfl (⟨_, rfl, sy_slL ?_⟩))))))))))⟩)))))))))))
  obtain ⟨g35, h⟩ := h
  refine oy_cat g35 (wa_cons (we_op (we_sl (we_op (we_var rfl (we_cI (ops_ix21 (wo_some (we_var rfl (⟨_, rfl, wo_none (sy_slL (we_sl (we_op (we_var rfl (we_cI (ops_ix21 (wo_none (wo_some (we_var rfl (⟨_, rfl, sy_slL ?_⟩))))))))))⟩))))))))))
  obtain ⟨g36, h⟩ := h
  refine oy_cat g36 (wa_nil (⟨Nat.le_of_ble_eq_true rfl, iz (z2 (yL (z2 yS zI)) (yL (z3 yS (yL yS) (yL yS)))) (((cutX s2.1 (some v32) none) ++ (cutX s2.1 none (some v32))), ((cutX s2.2 (some v34) none) ++ (cutX s2.2 none (some v34)))), tr2, ?_⟩))
  exact hret _ h _ _ (by have hb : big = 100000 := rfl; omega) (List.mem_of_getElem? (i := 0) rfl)
end
section
variable {P : Program} {w : World} {K : PySem.W.Frag} {mg : Str → Option Value} {base : Heap}
abbrev s_is_word : Stmt := topS 14
theorem sc_is_word : FnScope ["word", "sign"] ["word"] (defScope s_is_word) := ⟨rfl, rfl, rfl, by decide +kernel, rfl, by decide +kernel, by decide +kernel⟩
def spIsWord : Sp := fun vs H Q _ => ∃ z : Str, vs = [.str z] ∧ z.length ≤ sizeLine ∧ ∀ H', Same H H' → Q (.bl (wd z.cps.toList)) H'
theorem ok_is_word {k : Nat} (B : Bl mg) (g_LETTERS : Glo mg "LETTERS" (.str LETTERS)) (g_DIGITS : Glo mg "DIGITS" (.str DIGITS)) (g_MOST_SIGNS : Glo mg "MOST_SIGNS" (.int 12)) (F : Src K mg "is_word" s_is_word ["word"]) : Def P w K mg base CX0 (k + 1) "is_word" ["word"] spIsWord := by
  refine F.ok sc_is_word (fun vs H Q E h => ?_) (fun f cdv A outer s H vs Q E hr h => ?_)
  · obtain ⟨z, rfl, _⟩ := h
    rfl
  · obtain ⟨z, rfl, hz, q⟩ := h
    refine ⟨_, (pss_cons (ps_if (pt_not (pt_chain op_le op_le pe_int (pe_callB call_len_str (by rfl) B.len PySem.boot_len (pa_cons (pv 0) pa_nil)) (pe_glo g_MOST_SIGNS))) (pss_one (ps_ret pe_bl)) pss_nil)
 (pss_cons (ps_if (pt_cmpR op_notIn_sign (pe_ix ix_str (pv 0) pe_int (fun _ _ => rfl)) (pe_glo g_LETTERS) rfl) (pss_one (ps_ret pe_bl)) pss_nil)
 (pss_one (ps_ret (pe_callB (kcr_all (K := K) rfl) (by rfl) B.all' (by decide +kernel) (pa_cons (pe_lc (own := [("sign", 1)]) (g := gName 1) (by rfl) sc_is_word.nd (pi_str (pv 0)) (blkOk_by (N := ["word", "sign"]) (sc := defScope s_is_word) (by decide +kernel)) (fun _ _ _ _ _ => (pg_name (i := 1) sc_is_word.nd rfl (Or.inl rfl))) (fun _ _ _ _ _ => pts_nil) (fun _ _ _ _ _ => (pe_or (pe_cmpR op_in_sign (pv 1) (pe_glo g_LETTERS) rfl) (pe_one (pe_cmpR op_in_sign (pv 1) (pe_glo g_DIGITS) rfl))))) pa_nil)))))), ?_⟩
    have hl := len_cps z
    have no : ∀ b : Bool, wd z.cps.toList = b → ∀ H', Same H H' → Q (.bl b) H' := fun b e H' s => by rw [← e]; exact q H' s
    -- not 1 <= len(word) <= 12
    refine ⟨_, rfl, _, rfl, hz, _, _, rfl, rfl, _, rfl, ?_⟩
    refine ite2 (fun h1 => ?_) (fun h1 => ?_)
    · have h1 : (1 : Int) ≤ z.length := of_decide_eq_true h1
      refine ⟨_, _, rfl, rfl, _, rfl, ?_⟩
      refine ite2 (fun h2 => ?_) (fun h2 => ?_)
      · have h2 : ¬ (z.length : Int) ≤ 12 := by simpa using h2
        refine no _ ?_ _ (Same.refl H)
        have : ¬ (1 ≤ z.cps.toList.length ∧ z.cps.toList.length ≤ 12) := by omega
        unfold wd
        rw [decide_eq_false this]
        rfl
      · have h2 : (z.length : Int) ≤ 12 := by simpa using h2
        -- word[0] not in LETTERS
        have hc : z.cps.toList[0]? = some (z.cps.toList.headD 0) := by
          cases e : z.cps.toList with
          | nil => rw [e] at hl; simp at hl; omega
          | cons a r => rfl
        have hw : (decide (1 ≤ z.cps.toList.length ∧ z.cps.toList.length ≤ 12)) = true := decide_eq_true (by omega)
        refine ⟨_, rfl, z, _, _, rfl, rfl, hz, atI_nat (j := 0) hc, _, _, rfl, rfl, _, rfl, ?_⟩
        refine ite2 (fun h3 => ?_) (fun h3 => ?_)
        · refine no _ ?_ _ (Same.refl H)
          have h3 : decide (z.cps.toList.headD 0 ∈ LETTERS.cps.toList) = false := by simpa using h3
          unfold wd
          rw [h3, Bool.false_and, Bool.and_false]
        · have h3 : decide (z.cps.toList.headD 0 ∈ LETTERS.cps.toList) = true := by simpa using h3
          have hv : wd z.cps.toList = z.cps.toList.all okc := by
            unfold wd
            rw [hw, h3, Bool.true_and, Bool.true_and]
          -- all([..])
          refine ⟨_, rfl, z, rfl, fun D nD => lc_it (walk_str (z := z)) (fun i H' => Same H H' ∧ H' D = some (.lst (((z.cps.toList.take i).map okc).map V.bl))) ⟨same_upd nD, upd_same⟩ (fun _ _ _ _ => trivial) ?_ ?_⟩
          · rintro i x H' H2 hi ⟨sm, hD⟩ ⟨rfl, c, hc, rfl⟩
            have hc2 : z.cps.toList[i]? = some c := by simpa using hc
            refine ⟨rfl, yes_if ?_⟩
            have fin : ∃ acc, H2 D = some (.lst acc) ∧ acc.length < sizeLine ∧ Same H (upd H2 D (.lst (acc ++ [V.bl (okc c)]))) ∧ upd H2 D (.lst (acc ++ [V.bl (okc c)])) D = some (.lst (((z.cps.toList.take (i + 1)).map okc).map V.bl)) := by
              refine ⟨_, hD, ?_, fun b o e => ?_, ?_⟩
              · rw [List.length_map, List.length_map, List.length_take]
                exact small1000 (by omega)
              · rw [upd_ne (ne_of_none e nD)]
                exact sm b o e
              · rw [upd_same, all_take hc2, List.map_append]
                rfl
            refine ⟨_, rfl, c, _, rfl, rfl, _, rfl, ?_⟩
            refine ite2 (fun h4 => ?_) (fun h4 => ?_)
            · have e : okc c = true := by unfold okc; rw [h4, Bool.true_or]
              rw [e] at fin
              exact fin
            · have h4 : decide (c ∈ LETTERS.cps.toList) = false := by simpa using h4
              have e : okc c = decide (c ∈ DIGITS.cps.toList) := by unfold okc; rw [h4, Bool.false_or]
              rw [e] at fin
              exact ⟨_, rfl, c, _, rfl, rfl, fin⟩
          · rintro H' ⟨sm, hD⟩
            have e : z.cps.toList.take z.cps.size = z.cps.toList := List.take_of_length_le (by simp)
            rw [e] at hD
            refine ⟨D, _, rfl, SqL.of hD, ?_⟩
            rw [all_id]
            exact no _ hv _ sm
    · have h1 : ¬ (1 : Int) ≤ z.length := by simpa using h1
      refine ⟨_, rfl, ?_⟩
      refine no _ ?_ _ (Same.refl H)
      have : ¬ (1 ≤ z.cps.toList.length ∧ z.cps.toList.length ≤ 12) := by omega
      unfold wd
      rw [decide_eq_false this]
      rfl
abbrev s_check_word : Stmt := topS 15
theorem sc_check_word : FnScope ["word"] ["word"] (defScope s_check_word) := ⟨rfl, rfl, rfl, by decide +kernel, rfl, by decide +kernel, by decide +kernel⟩
def spCheckWord (C : Addr) : Sp := fun vs H Q E => ∃ z : Str, vs = [.str z] ∧ z.length ≤ sizeLine ∧ (wd z.cps.toList = true → ∀ H', Same H H' → Q (.str z) H') ∧ (wd z.cps.toList = false → Rais E H C [("word", .str z)])
theorem ok_check_word {k : Nat} {C_BadWord f_BadWord : Addr} (X_BadWord : ErrTxt P K mg false "BadWord" C_BadWord f_BadWord ["word"]) (D_is_word : Def P w K mg base CX0 k "is_word" ["word"] spIsWord) (F : Src K mg "check_word" s_check_word ["word"]) :
    Def P w K mg base (L2.CX P w) (k + 1) "check_word" ["word"] (spCheckWord C_BadWord) := by
  refine F.okX sc_check_word (fun vs H Q E h => ?_) (fun f cdv A outer s H vs Q E hr h => ?_)
  · obtain ⟨z, rfl, _⟩ := h
    rfl
  · obtain ⟨z, rfl, hz, q1, q2⟩ := h
    refine ⟨_, (pss_cons (ps_if (pt_not (pt_val (pe_def D_is_word hr pass0 (pa_cons (pv 0) pa_nil)))) (pss_one (ps_raiseE rfl X_BadWord hr (takes_of rfl rfl rfl rfl) (pa_cons (pv 0) pa_nil))) pss_nil)
 (pss_one (ps_ret (pv 0)))), ?_⟩
    refine ⟨_, rfl, z, rfl, hz, fun H' sm => ⟨_, rfl, ?_⟩⟩
    refine ite2 (fun h1 => ?_) (fun h1 => ?_)
    · have h1 : wd z.cps.toList = false := by simpa using h1
      exact ⟨_, rfl, rfl, (fun e => by cases e), fun d hd => (q2 h1).go sm hd⟩
    · have h1 : wd z.cps.toList = true := by simpa using h1
      exact ⟨_, rfl, q1 h1 H' sm⟩
end
section
variable {P : Program} {w : World} {K : PySem.W.Frag} {mg : Str → Option Value} {base : Heap}
abbrev s_check_number : Stmt := topS 16
theorem sc_check_number : FnScope ["number", "least", "most"] ["number", "least", "most"] (defScope s_check_number) := ⟨rfl, rfl, rfl, by decide +kernel, rfl, by decide +kernel, by decide +kernel⟩
def spCheckNumber (C : Addr) : Sp := fun vs H Q E => ∃ n lo hi : Int, vs = [.int n, .int lo, .int hi] ∧ (lo ≤ n ∧ n ≤ hi → Q (.int n) H) ∧ (¬ (lo ≤ n ∧ n ≤ hi) → Rais E H C [("number", .int n)])
theorem ok_check_number {k : Nat} {C_BadNumber f_BadNumber : Addr} (X_BadNumber : ErrTxt P K mg false "BadNumber" C_BadNumber f_BadNumber ["number"]) (F : Src K mg "check_number" s_check_number ["number", "least", "most"]) :
    Def P w K mg base (L2.CX P w) (k + 1) "check_number" ["number", "least", "most"] (spCheckNumber C_BadNumber) := by
  refine F.okX sc_check_number (fun vs H Q E h => ?_) (fun f cdv A outer s H vs Q E hr h => ?_)
  · obtain ⟨n, lo, hi, rfl, _⟩ := h
    rfl
  · obtain ⟨n, lo, hi, rfl, q1, q2⟩ := h
    refine ⟨_, (pss_cons (ps_if (PW.pt (pw_or (pt_cmpR op_lt (pv 0) (pv 1) (nomark _)) (pw_or1 (pt_cmpR op_gt (pv 0) (pv 2) (nomark _))))) (pss_one (ps_raiseE rfl X_BadNumber hr (takes_of rfl rfl rfl rfl) (pa_cons (pv 0) pa_nil))) pss_nil)
 (pss_one (ps_ret (pv 0)))), ?_⟩
    refine ⟨_, rfl, _, rfl, _, _, rfl, rfl, _, rfl, ?_⟩
    refine ite2 (fun h1 => ?_) (fun h1 => ?_)
    · have h1 : n < lo := of_decide_eq_true h1
      exact iteT ⟨_, rfl, rfl, (fun e => by cases e), fun d hd => (q2 (by omega)).go (Same.refl H) hd⟩
    · have h1 : ¬ n < lo := by simpa using h1
      refine ⟨_, rfl, _, rfl, _, _, rfl, rfl, _, rfl, ?_⟩
      refine ite2 (fun h2 => ?_) (fun h2 => ?_)
      · have h2 : hi < n := of_decide_eq_true h2
        exact ⟨_, rfl, rfl, (fun e => by cases e), fun d hd => (q2 (by omega)).go (Same.refl H) hd⟩
      · have h2 : ¬ hi < n := by simpa using h2
        exact ⟨_, rfl, q1 (by omega)⟩
abbrev s_check_names : Stmt := topS 17
theorem sc_check_names : FnScope ["names", "known", "seen", "name"] ["names", "known"] (defScope s_check_names) := ⟨rfl, rfl, rfl, by decide +kernel, rfl, by decide +kernel, by decide +kernel⟩
def spCheckNames (K : PySem.W.Frag) (CU CD : Addr) : Sp := fun vs H Q E => ∃ (a c : Addr) (ws ks : List Str), vs = [.ref a, .ref c] ∧ SqL K H a (ws.map V.str) ∧ Sq K H c (ks.map V.str) ∧ ws.length ≤ 1000 ∧
  (chk ks [] ws = none → ∀ (p : Addr) (H' : Hp), H p = none → Same H H' → H' p = some (.tup (ws.map V.str)) → Q (.ref p) H') ∧
  (∀ n, chk ks [] ws = some (true, n) → Rais E H CU [("name", .str n)]) ∧ (∀ n, chk ks [] ws = some (false, n) → Rais E H CD [("name", .str n)])
theorem ok_check_names {k : Nat} {C_UnknownName f_UnknownName C_DoubleName f_DoubleName : Addr} (B : Bl mg) (X_UnknownName : ErrTxt P K mg false "UnknownName" C_UnknownName f_UnknownName ["name"]) (X_DoubleName : ErrTxt P K mg false "DoubleName" C_DoubleName f_DoubleName ["name"])
    (F : Src K mg "check_names" s_check_names ["names", "known"]) : Def P w K mg base (L2.CX P w) (k + 1) "check_names" ["names", "known"] (spCheckNames K C_UnknownName C_DoubleName) := by
  refine F.okX sc_check_names (fun vs H Q E h => ?_) (fun f cdv A outer s H vs Q E hr h => ?_)
  · obtain ⟨a, c, ws, ks, rfl, _⟩ := h
    rfl
  · obtain ⟨a, c, ws, ks, rfl, ha, hc, hlen, q1, q2, q3⟩ := h
    refine ⟨_, (pss_cons (ps_asg (pe_lst pa_nil) (pg_name (i := 2) sc_check_names.nd rfl (Or.inl rfl)))
 (pss_cons (ps_for (passes_of rfl) rfl (kpi_list (K := K) (pv 0)) (pg_name (i := 3) sc_check_names.nd rfl (Or.inl rfl)) (pss_cons (ps_if (pt_cmpR (kop_notIn (K := K)) (pv 3) (pv 1) rfl) (pss_one (ps_raiseE rfl X_UnknownName hr (takes_of rfl rfl rfl rfl) (pa_cons (pv 3) pa_nil))) pss_nil)
 (pss_cons (ps_if (pt_cmpR (kop_in (K := K)) (pv 3) (pv 2) rfl) (pss_one (ps_raiseE rfl X_DoubleName hr (takes_of rfl rfl rfl rfl) (pa_cons (pv 3) pa_nil))) pss_nil)
 (pss_one (ps_expr (pe_bm PySem.F.plainAttrs_list PySem.F.slot_list_append PySem.F.type_list_append mt_append (pv 2) (pa_cons (pv 3) pa_nil)))))))
 (pss_one (ps_ret (pe_callTy (kcall_tuple (K := K)) (by rfl) B.tuple' (by decide +kernel) (pa_cons (pv 2) pa_nil)))))), ?_⟩
    refine ⟨Nat.zero_le _, fun D nD => ?_⟩
    have s1 : Same H (upd H D (.lst [])) := same_upd nD
    refine ⟨_, rfl, a, rfl, ⟨_, s1.seq ha⟩, for_list (K := K) (a := a) (xs := ws.map V.str) (fun i σ H' => ∃ y, σ = [some (.ref a), some (.ref c), some (.ref D), y] ∧ Same H H' ∧ H' D = some (.lst ((ws.take i).map V.str)) ∧ chk ks [] ws = chk ks (ws.take i) (ws.drop i))
      ⟨none, rfl, s1, upd_same, rfl⟩ (fun i σ H' _ h' => by obtain ⟨_, _, sm, _⟩ := h'; exact sm.seq ha) ?_ ?_⟩
    · rintro i x σ H' hi ⟨y, rfl, sm, hD, hk⟩
      obtain ⟨n, hn, rfl⟩ := map_get hi
      have hdr : ws.drop i = n :: ws.drop (i + 1) := List.drop_eq_getElem?_toList_append.trans (by rw [hn]; rfl)
      rw [hdr, chk_cons] at hk
      refine ⟨_, rfl, _, rfl, c, _, rfl, sm.sq hc, rfl, flat_strsB _, _, rfl, ?_⟩
      rw [inV_strs]
      refine ite2 (fun h1 => ?_) (fun h1 => ?_)
      · have h1 : n ∉ ks := by simpa using h1
        rw [if_neg h1] at hk
        exact ⟨_, rfl, rfl, (fun e => by cases e), fun d hd => (q2 n hk).go sm hd⟩
      · have h1 : n ∈ ks := by simpa using h1
        rw [if_pos h1] at hk
        refine ⟨_, rfl, _, rfl, D, _, rfl, .inl (SqL.of hD), rfl, flat_strsB _, _, rfl, ?_⟩
        rw [inV_strs]
        refine ite2 (fun h2 => ?_) (fun h2 => ?_)
        · have h2 : n ∈ ws.take i := by simpa using h2
          rw [if_pos h2] at hk
          exact ⟨_, rfl, rfl, (fun e => by cases e), fun d hd => (q3 n hk).go sm hd⟩
        · have h2 : n ∉ ws.take i := by simpa using h2
          rw [if_neg h2] at hk
          refine ⟨_, rfl, .inl ⟨rfl, _, SqL.of hD⟩, _, rfl, D, _, _, rfl, rfl, hD, ?_, ?_⟩
          · rw [List.length_map, List.length_take]
            exact small1000 (by omega)
          · refine ⟨_, rfl, fun b o e => ?_, ?_, ?_⟩
            · rw [upd_ne (ne_of_none e nD)]
              exact sm b o e
            · rw [upd_same, take_more hn, List.map_append]
              rfl
            · rw [take_more hn]
              exact hk
    · rintro σ H' ⟨y, rfl, sm, hD, hk⟩
      rw [List.length_map, List.take_length] at hD
      rw [List.length_map, List.drop_length] at hk
      exact ⟨_, rfl, D, _, rfl, .inl ⟨SqL.of hD, fun l hl => q1 hk l _ (sm.free hl) (sm.trans (same_upd hl)) upd_same⟩⟩
end
section
variable {P : Program} {w : World} {K : PySem.W.Frag} {mg : Str → Option Value} {base : Heap}
def ordRow (pl : List Str) (r : SRow) : SRow := (r.1, inOrd pl r.2.1, inOrd pl r.2.2)
/-- errors of plans -/
def erOf (cs : ECs) : PErr → Er
  | .tooMany k l => ⟨cs.tooMany, [("limit", iz zI l), ("kind", iz zS k)]⟩
  | .badWord w => ⟨cs.badWord, [("word", iz zS w)]⟩
  | .double n => ⟨cs.double, [("name", iz zS n)]⟩
  | .badNumber n => ⟨cs.badNumber, [("number", iz zI n)]⟩
  | .empty n => ⟨cs.empty, [("name", iz zS n)]⟩
  | .unknown n => ⟨cs.unknown, [("name", iz zS n)]⟩
theorem len_line {z : Str} (h : z.length ≤ 1000) : z.length ≤ sizeLine := Nat.le_of_lt (small1000 h)
def preCheckWord (cs : ECs) : Pre := fun ps out err => ∃ z, ps = [iz zS z] ∧ z.length ≤ 1000 ∧ out = (fun p => wd z.cps.toList = true ∧ p = iz zS z) ∧ err = fun e => wd z.cps.toList = false ∧ e = erOf cs (.badWord z)
theorem checkWordG {k : Nat} {cs : ECs} {ps : List Str} (D : Def P w K mg base (L2.CX P w) k "check_word" ps (spCheckWord cs.badWord)) : Def P w K mg base (L2.CX P w) k "check_word" ps (spA (preCheckWord cs)) := D.imp fun vs H Q E ⟨F, qs, out, err, fh, hps, ⟨z, e1, hz, e2, e3⟩, post, pers⟩ => by
  subst e1 e2 e3
  cases hps with
  | cons h1 hp => cases hp with
    | nil =>
      obtain ⟨h1, ha⟩ := h1
      subst h1
      exact ⟨z, rfl, len_line hz, fun h H' hh => post.flat fh ⟨h, rfl⟩ (fun _ => ⟨rfl, ha⟩) hh, fun h => pers.rais fh ⟨h, rfl⟩ (fs1S ha)⟩
def preCheckNumber (cs : ECs) : Pre := fun ps out err => ∃ n lo hi : Int, ps = [iz zI n, iz zI lo, iz zI hi] ∧ out = (fun p => (lo ≤ n ∧ n ≤ hi) ∧ p = iz zI n) ∧ err = fun e => ¬ (lo ≤ n ∧ n ≤ hi) ∧ e = erOf cs (.badNumber n)
theorem checkNumberG {k : Nat} {cs : ECs} {ps : List Str} (D : Def P w K mg base (L2.CX P w) k "check_number" ps (spCheckNumber cs.badNumber)) : Def P w K mg base (L2.CX P w) k "check_number" ps (spA (preCheckNumber cs)) := D.imp fun vs H Q E ⟨F, qs, out, err, fh, hps, ⟨n, lo, hi, e1, e2, e3⟩, post, pers⟩ => by
  subst e1 e2 e3
  cases hps with
  | cons h1 hp => cases hp with
    | cons h2 hp => cases hp with
      | cons h3 hp => cases hp with
        | nil =>
          have h1 : _ = V.int n := h1
          have h2 : _ = V.int lo := h2
          have h3 : _ = V.int hi := h3
          subst h1 h2 h3
          exact ⟨n, lo, hi, rfl, fun h => post.flat fh ⟨h, rfl⟩ (fun _ => rfl) (Same.refl H), fun h => pers.rais fh ⟨h, rfl⟩ fs1I⟩
def preCheckNames (cs : ECs) : Pre := fun ps out err => ∃ ws ks : List Str, (ps = [iz (zL zS) ws, iz (zT zS) ks] ∨ ps = [iz (zL zS) ws, iz (zL zS) ks]) ∧ ws.length ≤ 1000 ∧ out = (fun p => chk ks [] ws = none ∧ p = iz (zT zS) ws) ∧ err = fun e => ∃ x, chk ks [] ws = some x ∧ e = erOf cs (nameErr x)
theorem checkNamesG {k : Nat} {cs : ECs} {ps : List Str} (D : Def P w K mg base (L2.CX P w) k "check_names" ps (spCheckNames K cs.unknown cs.double)) : Def P w K mg base (L2.CX P w) k "check_names" ps (spA (preCheckNames cs)) := D.imp fun vs H Q E ⟨F, qs, out, err, fh, hps, ⟨ws, ks, e1, hl, e2, e3⟩, post, pers⟩ => by
  subst e2 e3
  have key : ∃ a c, vs = [.ref a, .ref c] ∧ H a = some (.lst (ws.map V.str)) ∧ (∀ y ∈ ws, Asc y) ∧ (SqT K H c (ks.map V.str) ∨ H c = some (.lst (ks.map V.str))) := by
    rcases e1 with e1 | e1
    · subst e1
      cases hps with
      | cons h1 hp => cases hp with
        | cons h2 hp => cases hp with
          | nil =>
            obtain ⟨a, us, rfl, h1, h3⟩ := h1
            obtain ⟨c, us', rfl, h2, h4⟩ := h2
            obtain ⟨rfl, h5⟩ := pvs_S h3
            obtain ⟨rfl, _⟩ := pvs_S h4
            exact ⟨a, c, rfl, fh _ _ h1, h5, .inl (h2.sq fh)⟩
    · subst e1
      cases hps with
      | cons h1 hp => cases hp with
        | cons h2 hp => cases hp with
          | nil =>
            obtain ⟨a, us, rfl, h1, h3⟩ := h1
            obtain ⟨c, us', rfl, h2, h4⟩ := h2
            obtain ⟨rfl, h5⟩ := pvs_S h3
            obtain ⟨rfl, _⟩ := pvs_S h4
            exact ⟨a, c, rfl, fh _ _ h1, h5, .inr (fh _ _ h2)⟩
  obtain ⟨a, c, rfl, ha, hw, hc⟩ := key
  refine ⟨a, c, ws, ks, rfl, SqL.of ha, ?_, hl, fun h p H' np hh hp => ?_, fun n h => ?_, fun n h => ?_⟩
  · rcases hc with hc | hc
    · exact .inr hc
    · exact .inl (SqL.of hc)
  · exact post.new fh ⟨h, rfl⟩ hh ⟨p, _, rfl, .inl (newF_at np hp), strs_pvs hw⟩
  · exact pers.rais fh ⟨_, h, rfl⟩ (fs1S (hw n (chk_mem h)))
  · exact pers.rais fh ⟨_, h, rfl⟩ (fs1S (hw n (chk_mem h)))
abbrev s_in_order : Stmt := topS 22
theorem sc_in_order : FnScope ["names", "places", "known", "place"] ["names", "places"] (defScope s_in_order) := ⟨rfl, rfl, rfl, by decide +kernel, rfl, by decide +kernel, by decide +kernel⟩
def preInOrder (cs : ECs) : Pre := fun ps out err => ∃ ws ks : List Str, ps = [iz (zL zS) ws, iz (zT zS) ks] ∧ ws.length ≤ 1000 ∧ ks.length ≤ 1000 ∧ out = (fun p => chk ks [] ws = none ∧ p = iz (zN zS) (inOrd ks ws)) ∧ err = fun e => ∃ x, chk ks [] ws = some x ∧ e = erOf cs (nameErr x)
theorem ok_in_orderG {k : Nat} {cs : ECs} (B : Bl mg) (D_check_names : Def P w K mg base (L2.CX P w) k "check_names" ["names", "known"] (spA (preCheckNames cs)))
    (F : Src K mg "in_order" s_in_order ["names", "places"]) : Def P w K mg base (L2.CX P w) (k + 1) "in_order" ["names", "places"] (spA (preInOrder cs)) := by
  refine F.okAX sc_in_order (fun qs out err ⟨_, _, h, _⟩ => by rw [h]; rfl) (fun f cdv A outer s H E qs out err hr hpre => ?_)
  obtain ⟨ws, ks, rfl, hl1, hl2, rfl, rfl⟩ := hpre
  refine ⟨_, (pss_cons (ps_asg (pe_def D_check_names hr (passes_call (takes_of rfl rfl rfl rfl) (fun _ _ _ _ h => h)) (pa_cons (pv 0) (pa_cons (pv 1) pa_nil))) (pg_name (i := 2) sc_in_order.nd rfl (Or.inr rfl)))
 (pss_one (ps_ret (pe_callTy (kcall_tuple (K := K)) (by rfl) B.tuple' (by decide +kernel) (pa_cons (pe_lc (own := [("place", 3)]) (g := gName 3) (by rfl) sc_in_order.nd (kpi_tup (K := K) (pv 1)) (blkOk_by (N := ["names", "places", "known", "place"]) (sc := defScope s_in_order) (by decide +kernel)) (fun _ _ _ _ _ => (pg_name (i := 3) sc_in_order.nd rfl (Or.inl rfl))) (fun _ _ _ _ _ => pts_one (pt_cmpR (kop_in (K := K)) (pv 3) (pv 2) rfl)) (fun _ _ _ _ _ => (pv 3))) pa_nil))))), fun fr Q hret hrse => ?_⟩
  ac_rfl
  refine sps_A ⟨ws, ks, .inl rfl, hl1, rfl, rfl⟩ (fun p ⟨hc, hp⟩ => ?_) (fun e he => kr_E hrse he)
  subst hp
  ac_rfl
  refine we_lc (r := zS) (s := zS) (xs := ks) (pr := fun x => decide (x ∈ ws)) (f := fun x => x) ?_ hl2 (fun x => tg_name) (fun x hx c => ?_) (fun x hx hp c => ?_) ?_
  · ac_rfl
  · ac_rfl
  · ac_rfl
  · refine wa_nil (cb_tupleLN ?_)
    ac_rfl
    refine hret _ ⟨hc, ?_⟩ _
    rw [List.map_id']
    rfl
/-- the places may stand at a bare place -/
def preInOrderK (cs : ECs) : Pre := fun ps out err => ∃ ws ks : List Str, ps = [iz (zL zS) ws, iz zK ks] ∧ ws.length ≤ 1000 ∧ ks.length ≤ 1000 ∧ out = (fun p => chk ks [] ws = none ∧ p = iz (zN zS) (inOrd ks ws)) ∧ err = fun e => ∃ x, chk ks [] ws = some x ∧ e = erOf cs (nameErr x)
theorem inOrderK {k : Nat} {cs : ECs} {ps : List Str} (D : Def P w K mg base (L2.CX P w) k "in_order" ps (spA (preInOrder cs))) : Def P w K mg base (L2.CX P w) k "in_order" ps (spA (preInOrderK cs)) := D.imp fun vs H Q E ⟨F, qs, out, err, fh, hps, ⟨ws, ks, e1, r⟩, post, pers⟩ => by
  subst e1
  refine ⟨F, _, out, err, fh, ?_, ⟨ws, ks, rfl, r⟩, post, pers⟩
  cases hps with
  | cons h1 hp => cases hp with
    | cons h2 hp =>
      cases hp
      exact .cons h1 (.cons (le_KT _ _ h2) .nil)
end
section
variable {P : Program} {w : World} {K : PySem.W.Frag} {mg : Str → Option Value} {base : Heap}
theorem kvs_keys {F : Hp} {α : Type} {r : Rep α} {kvs : List (L2.Key × V)} {rows : List (Str × α)} (h : KVs r F kvs rows) : (kvs.map fun kv => kV kv.1) = (rows.map (·.1)).map V.str := by
  induction h with
  | nil => rfl
  | cons a _ ih =>
    rw [List.map_cons, List.map_cons, List.map_cons, ih, a.1]
    rfl
theorem cb_listD {fr : L2.Fr} {Θ : List Cel} {Kk : Vp → List Cel → Prop} {α : Type} {r : Rep α} {rows : List (Str × α)} {p : Vp} (h : DicP fr Θ p r rows) (ha : ∀ x ∈ rows, Asc x.1) (k : Kk (iz (zL zS) (rows.map (·.1))) Θ) : Cbs fr Θ rListD [p] Kk := fun F H vs ok hps Q q => by
  cases hps with
  | cons h1 hp => cases hp with
    | nil =>
      obtain ⟨a, kvs, rfl, h2, h3⟩ := h F H _ ok h1
      refine ⟨a, kvs, rfl, h2, fun l nl => ?_⟩
      rw [kvs_keys h3]
      exact q.new k ok nl ⟨l, _, rfl, upd_same, strs_pvs fun y hy => by
        obtain ⟨x, hx, rfl⟩ := List.mem_map.mp hy
        exact ha x hx⟩
def tkR (ss : List SRow) : List (Str × List Str) := ss.map fun s => (s.1, s.2.1)
def gvR (ss : List SRow) : List (Str × List Str) := ss.map fun s => (s.1, s.2.2)
def planFs (pl : List Str) (bg : List Int) (td tg : Addr) : List (Str × Vp) := [("places", iz zK pl), ("begin", iz (zT zI) bg), ("taken", zAt td), ("given", zAt tg)]
/-- the cells of a plan that is being built -/
def halfC (x C dx td tg : Addr) (pl : List Str) (bg : List Int) (ss : List SRow) : List Cel := [cI x C dx (planFs pl bg td tg), cD td (zN zS) (tkR ss), cD tg (zN zS) (gvR ss)]
theorem tkR_names (ss : List SRow) : (tkR ss).map (·.1) = ss.map (·.1) := by unfold tkR; rw [List.map_map]; rfl
theorem gvR_names (ss : List SRow) : (gvR ss).map (·.1) = ss.map (·.1) := by unfold gvR; rw [List.map_map]; rfl
theorem some_iff {α : Type} {rows : List (Str × α)} {n : Str} : (getR rows n).isSome = decide (n ∈ rows.map (·.1)) := by
  cases e : getR rows n with
  | none => rw [decide_eq_false (getR_none.mp e)]; rfl
  | some x => rw [decide_eq_true (List.mem_map.mpr ⟨_, getR_mem e, rfl⟩)]; rfl
theorem putR_new {α : Type} {rows : List (Str × α)} {n : Str} {x : α} (h : n ∉ rows.map (·.1)) : putR rows n x = rows ++ [(n, x)] := if_neg h
abbrev s_Plan_put_step : Stmt := inClass (topS 23) 1
theorem sc_Plan_put_step : FnScope ["self", "word", "takes", "gives", "taken"] ["self", "word", "takes", "gives"] (defScope s_Plan_put_step) := ⟨rfl, rfl, rfl, by decide +kernel, rfl, by decide +kernel, by decide +kernel⟩
def prePut (cs : ECs) (C : Addr) : PreC := fun ps Θ out err => ∃ x dx td tg pl bg ss r, ps = [zAt x, iz zS r.1, iz (zL zS) r.2.1, iz (zL zS) r.2.2] ∧ Θ = halfC x C dx td tg pl bg ss ∧ r.1.length ≤ 1000 ∧ r.2.1.length ≤ 1000 ∧ r.2.2.length ≤ 1000 ∧ pl.length ≤ 12 ∧ ss.length ≤ 16 ∧
  out = (fun p Θ' => stepDue pl (ss.map (·.1)) r = none ∧ p = zNon ∧ Θ' = halfC x C dx td tg pl bg (ss ++ [ordRow pl r])) ∧ err = fun e Θ' => ∃ y, stepDue pl (ss.map (·.1)) r = some y ∧ e = erOf cs y ∧ Θ' = Θ
theorem ok_put_stepG {k : Nat} {cs : ECs} {C f_DoubleName f_EmptyStep : Addr} (B : Bl mg) (T_Plan : PlanC K mg C) (X_DoubleName : ErrTxt P K mg false "DoubleName" cs.double f_DoubleName ["name"]) (X_EmptyStep : ErrTxt P K mg false "EmptyStep" cs.empty f_EmptyStep ["name"])
    (D_check_word : Def P w K mg base (L2.CX P w) k "check_word" ["word"] (spA (preCheckWord cs))) (D_in_order : Def P w K mg base (L2.CX P w) k "in_order" ["names", "places"] (spA (preInOrder cs)))
    (F : SrcM K C "put_step" "Plan.put_step" s_Plan_put_step ["self", "word", "takes", "gives"]) : DefM P w K mg base (L2.CX P w) (k + 1) C "put_step" ["self", "word", "takes", "gives"] (spC (prePut cs C)) := by
  refine F.okCX sc_Plan_put_step (fun qs Θ out err ⟨x, dx, td, tg, pl, bg, ss, r, h1, h2, _⟩ => ⟨by rw [h1]; rfl, fun c hc => by
    subst h2
    simp only [halfC, List.mem_cons, List.not_mem_nil, or_false] at hc
    rcases hc with rfl | rfl | rfl <;> rfl⟩) (fun f cdv A outer s H E qs Θ out err hr hpre => ?_)
  obtain ⟨x, dx, td, tg, pl, bg, ss, r, rfl, rfl, l1, l2, l3, lp, ls, rfl, rfl⟩ := hpre
  replace D_in_order := inOrderK D_in_order
  refine ⟨_, (pss_cons (ps_expr (pe_def D_check_word hr (passes_call (takes_of rfl rfl rfl rfl) (fun _ _ _ _ h => h)) (pa_cons (pv 1) pa_nil)))
 (pss_cons (ps_if (pt_cmp (pc_din (hu_of hr) (pv 1) (kpe_fld (K := K) (pv 0)))) (pss_one (ps_raiseE rfl X_DoubleName hr (takes_of rfl rfl rfl rfl) (pa_cons (pv 1) pa_nil))) pss_nil)
 (pss_cons (ps_if (pt_cmpR op_eq (pe_callB (kcall_len (K := K)) (by rfl) B.len PySem.boot_len (pa_cons (pv 2) pa_nil)) pe_int (nomark _)) (pss_one (ps_raiseE rfl X_EmptyStep hr (takes_of rfl rfl rfl rfl) (pa_cons (pv 1) pa_nil))) pss_nil)
 (pss_cons (ps_asg (pe_def D_in_order hr (passes_call (takes_of rfl rfl rfl rfl) (fun _ _ _ _ h => h)) (pa_cons (pv 2) (pa_cons (kpe_fld (K := K) (pv 0)) pa_nil))) (pg_name (i := 4) sc_Plan_put_step.nd rfl (Or.inl rfl)))
 (pss_cons (ps_dput (hu_of hr) (kpe_fld (K := K) (pv 0)) (pv 1) (pe_def D_in_order hr (passes_call (takes_of rfl rfl rfl rfl) (fun _ _ _ _ h => h)) (pa_cons (pv 3) (pa_cons (kpe_fld (K := K) (pv 0)) pa_nil))) rfl)
 (pss_one (ps_dput (hu_of hr) (kpe_fld (K := K) (pv 0)) (pv 1) (pv 4) rfl))))))), fun fr Q hret hrse => ?_⟩
  have er : ∀ {Γ : Gam} {y : PErr}, stepDue pl (ss.map (·.1)) r = some y → Kr fr Γ (halfC x C dx td tg pl bg ss) (fun cls d _ H => E cls d H) (erOf cs y) := fun {Γ y} h => kr_C hrse ⟨y, h, rfl, rfl⟩ rfl (Θx := []) (by rw [List.append_nil])
  -- check_word(word)
  bv_omega
  refine kn_drop ?_
  ac_rfl
  refine sps_A ⟨r.1, rfl, l1, rfl, rfl⟩ (fun p ⟨hw, hp⟩ => ?_) (fun e ⟨hw, he⟩ => ?_)
  rotate_left
  · subst he
    refine er ?_
    unfold stepDue
    rw [if_neg (by rw [hw]; exact Bool.false_ne_true)]
  -- if word in self.taken
  ac_rfl
  refine ⟨_, fld_C (.head _) T_Plan.cl T_Plan.nT rfl, _, _, _, _, dic_C (.tail _ (.head _)), rfl, _, rfl, ?_⟩
  rw [some_iff, tkR_names]
  refine ⟨fun h => ?_, fun h => ?_⟩
  · have h := of_decide_eq_true h
    ac_rfl
    refine ⟨rfl, (fun h => nomatch h), er (y := .double r.1) ?_⟩
    unfold stepDue
    rw [if_pos hw, if_pos h]
  have h1 := of_decide_eq_false h
  -- if len(takes) == 0
  ac_rfl
  refine ⟨fun h => ?_, fun h => ?_⟩
  · have h := of_decide_eq_true h
    ac_rfl
    refine ⟨rfl, (fun h => nomatch h), er (y := .empty r.1) ?_⟩
    unfold stepDue
    rw [if_pos hw, if_neg h1, if_pos (List.length_eq_zero_iff.mp (by omega))]
  have h2 : r.2.1 ≠ [] := fun q => of_decide_eq_false h (by rw [q]; rfl)
  -- taken
  ac_rfl
  refine ⟨_, fld_C (.head _) T_Plan.cl T_Plan.nP rfl, ?_⟩
  ac_rfl
  refine sps_A ⟨_, _, rfl, l2, by omega, rfl, rfl⟩ (fun p ⟨hc, hp⟩ => ?_) (fun e ⟨y, hy, he⟩ => ?_)
  rotate_left
  · subst he
    refine er ?_
    unfold stepDue
    rw [if_pos hw, if_neg h1, if_neg h2, hy]
  subst hp
  -- given
  ac_rfl
  refine kn_dput ?_
  ac_rfl
  refine ⟨_, fld_C (.head _) T_Plan.cl T_Plan.nP rfl, ?_⟩
  ac_rfl
  refine sps_A ⟨_, _, rfl, l3, by omega, rfl, rfl⟩ (fun p ⟨hc2, hp⟩ => ?_) (fun e ⟨y, hy, he⟩ => ?_)
  rotate_left
  · subst he
    refine er ?_
    unfold stepDue
    rw [if_pos hw, if_neg h1, if_neg h2, hc, hy]
    rfl
  subst hp
  have hdue : stepDue pl (ss.map (·.1)) r = none := by
    unfold stepDue
    rw [if_pos hw, if_neg h1, if_neg h2, hc, hc2]
    rfl
  ac_rfl
  refine ⟨_, fld_C (.head _) T_Plan.cl T_Plan.nG rfl, ?_⟩
  ac_rfl
  refine ⟨_, _, _, _, _, tg, 2, rfl, rfl, rfl, rfl, by unfold gvR; rw [List.length_map]; omega, ?_⟩
  subst_vars
  refine kn_dput ?_
  ac_rfl
  refine ⟨_, fld_C (.head _) T_Plan.cl T_Plan.nT rfl, ?_⟩
  ac_rfl
  refine ⟨_, _, _, _, _, td, 1, rfl, rfl, rfl, rfl, by unfold tkR; rw [List.length_map]; omega, ?_⟩
  rw [putR_new (by rw [gvR_names]; exact h1), putR_new (by rw [tkR_names]; exact h1)]
  have e1 : tkR ss ++ [(r.1, inOrd pl r.2.1)] = tkR (ss ++ [ordRow pl r]) := by unfold tkR; rw [List.map_append]; rfl
  have e2 : gvR ss ++ [(r.1, inOrd pl r.2.2)] = gvR (ss ++ [ordRow pl r]) := by unfold gvR; rw [List.map_append]; rfl
  rw [e1, e2]
  intro σ F' H' ok env
  exact hret zNon _ ⟨hdue, rfl, rfl⟩ rfl _ [] (by rw [List.append_nil]; exact .refl _) .non F' H' ok rfl
end
section
variable {P : Program} {w : World} {K : PySem.W.Frag} {mg : Str → Option Value} {base : Heap}
theorem fsok_none {F : Hp} {m : Str} : ∀ {fs : List (Str × Vp)} {us : List (Str × V)}, FsOk F fs us → fs.lookup m = none → us.lookup m = none
  | _, _, .nil, _ => rfl
  | (f1, f2) :: fs, (u1, u2) :: us, .cons ⟨h1, _⟩ r, h => by
    have h1 : f1 = u1 := h1
    subst h1
    rw [List.lookup_cons] at h ⊢
    cases e : (m == f1) with
    | true => rw [e] at h; cases h
    | false => rw [e] at h; exact fsok_none r h
theorem fsok_cons {F : Hp} {f : Str} {p : Vp} {fs : List (Str × Vp)} {us : List (Str × V)} (h : FsOk F ((f, p) :: fs) us) : ∃ w us', us = (f, w) :: us' ∧ p.p F w ∧ FsOk F fs us' := by
  cases us with
  | nil => cases h
  | cons u us =>
    cases h with
    | cons a b =>
      obtain ⟨u1, u2⟩ := u
      obtain ⟨a1, a2⟩ := a
      have a1 : f = u1 := a1
      subst a1
      exact ⟨u2, us, rfl, a2, b⟩
theorem ins_C {fr : L2.Fr} {Θ : List Cel} {a C dx : Addr} {fs : List (Str × Vp)} {m : Str} (hc : cI a C dx fs ∈ Θ) (hm : fs.lookup m = none) : InsP fr Θ (zAt a) C m := fun F H v ok hv => by
  obtain ⟨_, ⟨o, h2, us, rfl, h6⟩, _⟩ := ok.ce _ hc
  exact ⟨a, dx, us, hv, h2, fsok_none h6 hm⟩
def PRowsOk (prs : List (Str × Int)) : Prop := ∀ r ∈ prs, r.1.length ≤ 1000
def SRowsOk (srs : List SRow) : Prop := ∀ r ∈ srs, r.1.length ≤ 1000 ∧ r.2.1.length ≤ 1000 ∧ r.2.2.length ≤ 1000
abbrev zPR : Rep (List (Str × Int)) := zL (z2 zS zI)
abbrev zSR : Rep (List SRow) := zL (z3 zS (zL zS) (zL zS))
theorem placesDue_ok : ∀ {prs : List (Str × Int)} {seen : List Str}, placesDue seen prs = none → seen.Nodup → (∀ r ∈ prs, Wd r.1 ∧ 0 ≤ r.2 ∧ r.2 ≤ 99) ∧ (seen ++ prs.map (·.1)).Nodup
  | [], seen, _, hs => ⟨(fun r hr => by cases hr), by simpa using hs⟩
  | (w, n) :: r, seen, h, hs => by
    rw [placesDue_cons] at h
    by_cases h1 : wd w.cps.toList = true
    · rw [if_pos h1] at h
      by_cases h2 : w ∈ seen
      · rw [if_pos h2] at h; cases h
      · rw [if_neg h2] at h
        by_cases h3 : 0 ≤ n ∧ n ≤ 99
        · rw [if_pos h3] at h
          obtain ⟨a, b⟩ := placesDue_ok h (nodup_snoc hs h2)
          refine ⟨fun x hx => ?_, ?_⟩
          · rcases List.mem_cons.mp hx with rfl | hx
            · exact ⟨h1, h3⟩
            · exact a x hx
          · rw [List.map_cons]
            rw [List.append_assoc] at b
            exact b
        · rw [if_neg h3] at h; cases h
    · rw [if_neg h1] at h; cases h
theorem stepDue_ok {pl seen : List Str} {s : SRow} (h : stepDue pl seen s = none) : Wd s.1 ∧ s.1 ∉ seen ∧ s.2.1 ≠ [] ∧ chk pl [] s.2.1 = none ∧ chk pl [] s.2.2 = none := by
  unfold stepDue at h
  by_cases h1 : wd s.1.cps.toList = true
  · rw [if_pos h1] at h
    by_cases h2 : s.1 ∈ seen
    · rw [if_pos h2] at h; cases h
    · rw [if_neg h2] at h
      by_cases h3 : s.2.1 = []
      · rw [if_pos h3] at h; cases h
      · rw [if_neg h3] at h
        cases h4 : chk pl [] s.2.1 with
        | some x => rw [h4] at h; cases h
        | none =>
          rw [h4] at h
          cases h5 : chk pl [] s.2.2 with
          | some x => rw [h5] at h; cases h
          | none => exact ⟨h1, h2, h3, rfl, rfl⟩
  · rw [if_neg h1] at h; cases h
theorem stepsDue_ok {pl : List Str} : ∀ {srs : List SRow} {seen : List Str}, stepsDue pl seen srs = none → seen.Nodup → (∀ r ∈ srs, Wd r.1 ∧ r.2.1 ≠ [] ∧ chk pl [] r.2.1 = none ∧ chk pl [] r.2.2 = none) ∧ (seen ++ srs.map (·.1)).Nodup
  | [], seen, _, hs => ⟨(fun r hr => by cases hr), by simpa using hs⟩
  | s :: r, seen, h, hs => by
    rw [stepsDue_cons] at h
    cases h1 : stepDue pl seen s with
    | some e => rw [h1] at h; cases h
    | none =>
      rw [h1] at h
      obtain ⟨a1, a2, a3, a4, a5⟩ := stepDue_ok h1
      obtain ⟨a, b⟩ := stepsDue_ok h (nodup_snoc hs a2)
      refine ⟨fun x hx => ?_, ?_⟩
      · rcases List.mem_cons.mp hx with rfl | hx
        · exact ⟨a1, a3, a4, a5⟩
        · exact a x hx
      · rw [List.map_cons]
        rw [List.append_assoc] at b
        exact b
theorem inOrd_idem (pl ns : List Str) : inOrd pl (inOrd pl ns) = inOrd pl ns := by
  unfold inOrd
  refine List.filter_congr fun y hy => ?_
  rw [decide_eq_decide, List.mem_filter, decide_eq_true_iff]
  exact ⟨fun h => h.2, fun h => ⟨hy, h⟩⟩
theorem planDue_ok {prs : List (Str × Int)} {srs : List SRow} (h : planDue prs srs = none) : PlanOk (planOf prs srs) := by
  unfold planDue at h
  by_cases h1 : 12 < prs.length
  · rw [if_pos h1] at h; cases h
  rw [if_neg h1] at h
  by_cases h2 : 16 < srs.length
  · rw [if_pos h2] at h; cases h
  rw [if_neg h2] at h
  cases h3 : placesDue [] prs with
  | some e => rw [h3] at h; cases h
  | none =>
    rw [h3] at h
    obtain ⟨a, b⟩ := placesDue_ok h3 List.nodup_nil
    obtain ⟨c, d⟩ := stepsDue_ok h List.nodup_nil
    refine ⟨fun y hy => ?_, by simpa [planOf] using b, by simp [planOf], fun n hn => ?_, fun r hr => ?_, ?_, by simp [planOf]; omega, by simp [planOf]; omega⟩
    · obtain ⟨r, hr, rfl⟩ := List.mem_map.mp hy
      exact (a r hr).1
    · obtain ⟨r, hr, rfl⟩ := List.mem_map.mp hn
      exact (a r hr).2
    · obtain ⟨s, hs, rfl⟩ := List.mem_map.mp hr
      obtain ⟨c1, c2, c3, c4⟩ := c s hs
      refine ⟨c1, fun q => c2 ?_, inOrd_idem _ _, inOrd_idem _ _⟩
      obtain ⟨n1, n2⟩ := chk_none.mp c3
      cases e : s.2.1 with
      | nil => rfl
      | cons y ys =>
        have hy : y ∈ s.2.1 := by rw [e]; exact List.mem_cons_self ..
        have : y ∈ inOrd (prs.map (·.1)) s.2.1 := by
          unfold inOrd
          exact List.mem_filter.mpr ⟨(n2 y hy).1, decide_eq_true hy⟩
        have q : inOrd (prs.map (·.1)) s.2.1 = [] := q
        rw [q] at this
        cases this
    · have : (planOf prs srs).names = srs.map (·.1) := by
        unfold PlanD.names planOf
        rw [List.map_map]
        rfl
      rw [this]
      simpa using d
theorem kvs_tab {F : Hp} : ∀ {kvs : List (L2.Key × V)} {rows : List (Str × List Str)}, KVs (zN zS) F kvs rows → TabAt F kvs rows
  | _, _, .nil => .nil
  | _, _, .cons ⟨h1, t, us, h2, h3, h4⟩ r => by
    obtain ⟨rfl, _⟩ := pvs_S h4
    exact .cons ⟨h1, t, h2, h3⟩ (kvs_tab r)
/-- a plan that is built is frozen -/
theorem plan_frz {fr : L2.Fr} {Θ : List Cel} {F H : Hp} {x C dx td tg : Addr} {d : PlanD} (ok : OkF fr (cI x C dx [("places", iz zK d.places), ("begin", iz (zT zI) d.begin), ("taken", zAt td), ("given", zAt tg), ("steps", iz (zT zS) d.names)] :: cD td (zN zS) d.tk :: cD tg (zN zS) d.gv :: Θ) F H) (hd : PlanOk d) : ∃ F', OkF fr Θ F' H ∧ (iz (zPlan C) d).p F' (.ref x) := by
  obtain ⟨n1, ⟨o, h1, us, rfl, f1⟩, _⟩ := ok.ce _ (.head _)
  obtain ⟨n2, ⟨o, h2, kt, rfl, f2⟩, _⟩ := ok.ce _ (.tail _ (.head _))
  obtain ⟨n3, ⟨o, h3, kg, rfl, f3⟩, _⟩ := ok.ce _ (.tail _ (.tail _ (.head _)))
  have h1 : H x = some (.ins C dx us) := h1
  have h2 : H td = some (.dK kt) := h2
  have h3 : H tg = some (.dK kg) := h3
  have ok1 := ok.frz (i := 0) rfl rfl h1
  have s1 : Same F (upd F x (.ins C dx us)) := same_upd n1
  have ok2 := ok1.frz (i := 0) rfl rfl h2
  have n2' : upd F x (.ins C dx us) td = none := (ok1.ce _ (.head _)).1
  have s2 := same_upd (o := .dK kt) n2'
  have ok3 := ok2.frz (i := 0) rfl rfl h3
  have n3' : upd (upd F x (.ins C dx us)) td (.dK kt) tg = none := (ok2.ce _ (.head _)).1
  have s3 := same_upd (o := .dK kg) n3'
  have s123 := (s1.trans s2).trans s3
  refine ⟨_, ok3, ?_⟩
  obtain ⟨w1, us1, rfl, ⟨tp, vp, rfl, p1, q1⟩, g1⟩ := fsok_cons f1
  obtain ⟨w2, us2, rfl, ⟨tb, vb, rfl, p2, q2⟩, g2⟩ := fsok_cons g1
  obtain ⟨w3, us3, rfl, e3, g3⟩ := fsok_cons g2
  obtain ⟨w4, us4, rfl, e4, g4⟩ := fsok_cons g3
  obtain ⟨w5, us5, rfl, ⟨ts, vs, rfl, p5, q5⟩, g5⟩ := fsok_cons g4
  have e3 : w3 = .ref td := e3
  have e4 : w4 = .ref tg := e4
  subst e3 e4
  cases g5
  obtain ⟨rfl, _⟩ := pvs_S q1
  have := pvs_I q2
  subst this
  obtain ⟨rfl, _⟩ := pvs_S q5
  exact ⟨x, rfl, ⟨dx, tp, tb, td, tg, ts, kt, kg, s3 _ _ (s2 _ _ upd_same), p1.mono s123, s123 _ _ (p2.nar rfl), s3 _ _ upd_same, upd_same, p5.mono s123, kvs_tab (f2.mono s123), kvs_tab (f3.mono s123)⟩, hd⟩
end
section
variable {P : Program} {w : World} {K : PySem.W.Frag} {mg : Str → Option Value} {base : Heap}
abbrev s_Plan___init__ : Stmt := inClass (topS 23) 0
theorem sc_Plan___init__ : FnScope ["self", "places", "steps", "words", "numbers", "word", "number", "takes", "gives"] ["self", "places", "steps"] (defScope s_Plan___init__) := ⟨rfl, rfl, rfl, by decide +kernel, rfl, by decide +kernel, by decide +kernel⟩
def preInit (cs : ECs) (C : Addr) : Pre := fun ps out err => ∃ prs srs, ps = [iz zPR prs, iz zSR srs] ∧ PRowsOk prs ∧ SRowsOk srs ∧ out = (fun p => planDue prs srs = none ∧ p = iz (zPlan C) (planOf prs srs)) ∧ err = fun e => ∃ y, planDue prs srs = some y ∧ e = erOf cs y
theorem ok_plan_initG {k : Nat} {cs : ECs} {C f_TooMany f_DoubleName : Addr} (B : Bl mg) (T_Plan : PlanC K mg C) (g_MOST_PLACES : Glo mg "MOST_PLACES" (.int 12)) (g_MOST_STEPS : Glo mg "MOST_STEPS" (.int 16)) (g_MOST_BEGIN : Glo mg "MOST_BEGIN" (.int 99))
    (X_TooMany : ErrTxt P K mg true "TooMany" cs.tooMany f_TooMany ["kind", "limit"]) (X_DoubleName : ErrTxt P K mg false "DoubleName" cs.double f_DoubleName ["name"])
    (D_check_word : Def P w K mg base (L2.CX P w) k "check_word" ["word"] (spA (preCheckWord cs))) (D_check_number : Def P w K mg base (L2.CX P w) k "check_number" ["number", "least", "most"] (spA (preCheckNumber cs)))
    (DM_Plan_put_step : DefM P w K mg base (L2.CX P w) k C "put_step" ["self", "word", "takes", "gives"] (spC (prePut cs C)))
    (F : SrcI K C "Plan.__init__" s_Plan___init__ ["self", "places", "steps"]) : DefI P w K mg base (L2.CX P w) (k + 1) C ["self", "places", "steps"] (spI C (preInit cs C)) := by
  refine F.okAX sc_Plan___init__ (fun qs out err ⟨_, _, h, _⟩ => by rw [h]; rfl) (fun f cdv A outer s H E qs out err hr hpre => ?_)
  obtain ⟨prs, srs, rfl, okP, okS, rfl, rfl⟩ := hpre
  refine ⟨_, (pss_cons (ps_if (pt_cmpR op_gt (pe_callB (kcall_len (K := K)) (by rfl) B.len PySem.boot_len (pa_cons (pv 1) pa_nil)) (pe_glo g_MOST_PLACES) (nomark _)) (pss_one (ps_raiseE rfl X_TooMany hr (takes_of rfl rfl rfl rfl) (pa_cons pe_str (pa_cons (pe_glo g_MOST_PLACES) pa_nil)))) pss_nil)
 (pss_cons (ps_if (pt_cmpR op_gt (pe_callB (kcall_len (K := K)) (by rfl) B.len PySem.boot_len (pa_cons (pv 2) pa_nil)) (pe_glo g_MOST_STEPS) (nomark _)) (pss_one (ps_raiseE rfl X_TooMany hr (takes_of rfl rfl rfl rfl) (pa_cons pe_str (pa_cons (pe_glo g_MOST_STEPS) pa_nil)))) pss_nil)
 (pss_cons (ps_asg (pe_lst pa_nil) (pg_name (i := 3) sc_Plan___init__.nd rfl (Or.inl rfl)))
 (pss_cons (ps_asg (pe_lst pa_nil) (pg_name (i := 4) sc_Plan___init__.nd rfl (Or.inl rfl)))
 (pss_cons (ps_for (passes_of rfl) rfl (kpi_list (K := K) (pv 1)) (pg_tup rfl (pgs_cons (pg_name (i := 5) sc_Plan___init__.nd rfl (Or.inl rfl)) (pgs_cons (pg_name (i := 6) sc_Plan___init__.nd rfl (Or.inl rfl)) pgs_nil))) (pss_cons (ps_expr (pe_def D_check_word hr (passes_call (takes_of rfl rfl rfl rfl) (fun _ _ _ _ h => h)) (pa_cons (pv 5) pa_nil)))
 (pss_cons (ps_if (pt_cmpR (kop_in (K := K)) (pv 5) (pv 3) rfl) (pss_one (ps_raiseE rfl X_DoubleName hr (takes_of rfl rfl rfl rfl) (pa_cons (pv 5) pa_nil))) pss_nil)
 (pss_cons (ps_expr (pe_bm PySem.F.plainAttrs_list PySem.F.slot_list_append PySem.F.type_list_append mt_append (pv 4) (pa_cons (pe_def D_check_number hr (passes_call (takes_of rfl rfl rfl rfl) (fun _ _ _ _ h => h)) (pa_cons (pv 6) (pa_cons pe_int (pa_cons (pe_glo g_MOST_BEGIN) pa_nil)))) pa_nil)))
 (pss_one (ps_expr (pe_bm PySem.F.plainAttrs_list PySem.F.slot_list_append PySem.F.type_list_append mt_append (pv 3) (pa_cons (pv 5) pa_nil))))))))
 (pss_cons (kps_fld (K := K) (pv 0) (pe_callTy (kcall_tupleX (K := K)) (by rfl) B.tuple' (by decide +kernel) (pa_cons (pv 3) pa_nil)))
 (pss_cons (kps_fld (K := K) (pv 0) (pe_callTy (kcall_tuple (K := K)) (by rfl) B.tuple' (by decide +kernel) (pa_cons (pv 4) pa_nil)))
 (pss_cons (kps_fld (K := K) (pv 0) pe_dnewK)
 (pss_cons (kps_fld (K := K) (pv 0) pe_dnewK)
 (pss_cons (ps_for (passes_of rfl) rfl (kpi_list (K := K) (pv 2)) (pg_tup rfl (pgs_cons (pg_name (i := 5) sc_Plan___init__.nd rfl (Or.inl rfl)) (pgs_cons (pg_name (i := 7) sc_Plan___init__.nd rfl (Or.inl rfl)) (pgs_cons (pg_name (i := 8) sc_Plan___init__.nd rfl (Or.inl rfl)) pgs_nil)))) (pss_one (ps_expr (pe_metD DM_Plan_put_step T_Plan.cl hr (fun σ => Passes.at (passes_call (takes_of rfl rfl rfl rfl) (fun _ _ _ _ h => h)) σ) (pv 0) (pa_cons (pv 5) (pa_cons (pv 7) (pa_cons (pv 8) pa_nil)))))))
 (pss_one (kps_fld (K := K) (pv 0) (pe_callTy (kcall_tuple (K := K)) (by rfl) B.tuple' (by decide +kernel) (pa_cons (pe_callTy (call_list_dK rfl) (by rfl) B.list' (by decide +kernel) (pa_cons (kpe_fld (K := K) (pv 0)) pa_nil)) pa_nil)))))))))))))), fun fr x dx Q rt hQ hrt hrse => ?_⟩
  have er : ∀ {fr' : L2.Fr} {Γ : Gam} {Θ : List Cel} {y : PErr}, FrLe fr fr' → planDue prs srs = some y → Kr fr' Γ Θ (fun cls d _ H => E cls d H) (erOf cs y) := fun {fr' Γ Θ y} le h => kr_E (hrse.fine le) ⟨y, h, rfl⟩
  have le0 : FrLe fr fr := ⟨rfl, rfl, Same.refl _, fun a o h => .inl ⟨o, h⟩⟩
  ac_rfl
  refine ⟨fun h => ?_, fun h => ?_⟩
  · have h := of_decide_eq_true h
    ac_rfl
    refine ⟨rfl, (fun _ => ⟨_, _, rfl, by decide⟩), er (y := .tooMany "places" 12) le0 ?_⟩
    unfold planDue
    rw [if_pos (by omega)]
  have h1 : ¬ 12 < prs.length := fun q => of_decide_eq_false h (by omega)
  ac_rfl
  refine ⟨fun h => ?_, fun h => ?_⟩
  · have h := of_decide_eq_true h
    ac_rfl
    refine ⟨rfl, (fun _ => ⟨_, _, rfl, by decide⟩), er (y := .tooMany "steps" 16) le0 ?_⟩
    unfold planDue
    rw [if_neg h1, if_pos (by omega)]
  have h2 : ¬ 16 < srs.length := fun q => of_decide_eq_false h (by omega)
  have pd1 : ∀ {y : PErr}, placesDue [] prs = some y → planDue prs srs = some y := fun {y} h => by
    unfold planDue
    rw [if_neg h1, if_neg h2, h]
  have pd2 : placesDue [] prs = none → planDue prs srs = stepsDue (prs.map (·.1)) [] srs := fun h => by
    unfold planDue
    rw [if_neg h1, if_neg h2, h]
  ac_rfl
  refine we_nil zS fun a1 => ?_
  ac_rfl
  refine we_nil zI fun a2 => ?_
  ac_rfl
  refine kn_forS (S := List (Str × Int)) (r := z2 zS zI) (xs := prs) (fun _ => [some (zAt x), some (iz zPR prs), some (iz zSR srs), some (zAt a1), some (zAt a2), none, none, none, none]) (fun d => [cL a2 zI (d.map (·.2)), cL a1 zS (d.map (·.1)), cI x C dx []])
    (fun i d => d = prs.take i ∧ placesDue [] prs = placesDue (d.map (·.1)) (prs.drop i)) [] ?_ ?_ ⟨rfl, rfl⟩ (fun x s => tg2 (by decide)) (fun fr' le i r d hi hP => ?_) (fun d hP => ?_)
  · ac_rfl
  · and_intros
  · obtain ⟨hd, hdue⟩ := hP
    obtain ⟨z, n⟩ := r
    rw [drop_at hi, placesDue_cons] at hdue
    have lz : z.length ≤ 1000 := okP _ (List.mem_of_getElem? hi)
    have ld : d.length ≤ 12 := by rw [hd]; have := List.length_take_le i prs; rw [List.length_take] at this ⊢; omega
    subst_vars
    bv_omega
    refine kn_drop ?_
    ac_rfl
    refine sps_A ⟨z, rfl, lz, rfl, rfl⟩ (fun p ⟨hw, hp⟩ => ?_) (fun e ⟨hw, he⟩ => ?_)
    rotate_left
    · subst he
      refine er le (pd1 ?_)
      rw [hdue, if_neg (by rw [hw]; exact Bool.false_ne_true)]
    rw [if_pos hw] at hdue
    ac_rfl
    refine ops_inS (seq_C (.tail _ (.head _))) ?_
    ac_rfl
    refine ⟨fun h => ?_, fun h => ?_⟩
    · have h := of_decide_eq_true h
      ac_rfl
      refine ⟨rfl, (fun h => nomatch h), er (y := .double z) le (pd1 ?_)⟩
      rw [hdue, if_pos h]
    have h3 := of_decide_eq_false h
    rw [if_neg h3] at hdue
    ac_rfl
    refine kn_append rfl (.head _) ?_
    ac_rfl
    refine sps_A ⟨n, 0, 99, rfl, rfl, rfl⟩ (fun p ⟨hn, hp⟩ => ?_) (fun e ⟨hn, he⟩ => ?_)
    rotate_left
    · subst he
      refine er le (pd1 ?_)
      rw [hdue, if_neg hn]
    subst hp
    rw [if_pos hn] at hdue
    refine ⟨_, 0, rfl, rfl, by rw [List.length_map]; omega, ?_⟩
    subst_vars
    refine kn_append rfl (.tail _ (.head _)) ?_
    ac_rfl
    refine ⟨_, 1, rfl, rfl, by rw [List.length_map]; omega, ?_⟩
    subst_vars
    refine kn_back (d ++ [(z, n)]) ?_ ⟨?_, ?_⟩ ?_
    · and_intros
    · rw [take_more hi, hd]
    · rw [hdue, List.map_append]
      rfl
    · rw [List.map_append, List.map_append]
      rfl
  obtain ⟨hd, hdue⟩ := hP
  rw [List.take_length] at hd
  subst hd
  rw [List.drop_length] at hdue
  have hdue : placesDue [] d = none := hdue
  have hpd := pd2 hdue
  subst_vars
  bv_omega
  refine kn_fldPut ?_
  ac_rfl
  refine cb_tupleX (.tail _ (.head _)) ?_
  ac_rfl
  refine ⟨x, C, dx, [], 2, rfl, rfl, T_Plan.cl, T_Plan.nP, by decide, ?_⟩
  subst_vars
  bv_omega
  refine kn_fldPut ?_
  ac_rfl
  refine cb_tupleC (.head _) ?_
  ac_rfl
  refine ⟨x, C, dx, _, 2, rfl, rfl, T_Plan.cl, T_Plan.nB, (show 1 < 1000 by decide), ?_⟩
  subst_vars
  bv_omega
  refine kn_fldPut (we_dnew (zN zS) fun td => ?_)
  ac_rfl
  refine ⟨x, C, dx, _, 3, rfl, rfl, T_Plan.cl, T_Plan.nT, (show 2 < 1000 by decide), ?_⟩
  subst_vars
  bv_omega
  refine kn_fldPut (we_dnew (zN zS) fun tg => ?_)
  ac_rfl
  refine ⟨x, C, dx, _, 4, rfl, rfl, T_Plan.cl, T_Plan.nG, (show 3 < 1000 by decide), ?_⟩
  subst_vars
  have e4 : putP "given" (zAt tg) (putP "taken" (zAt td) (putP "begin" (iz (zT zI) (d.map (·.2))) (putP "places" (iz zK (d.map (·.1))) []))) = planFs (d.map (·.1)) (d.map (·.2)) td tg := rfl
  rw [e4]
  refine Kn.perm (Θ' := halfC x C dx td tg (d.map (·.1)) (d.map (·.2)) [] ++ [cL a2 zI (d.map (·.2)), cL a1 zS (d.map (·.1))]) ?_ ?_
  rotate_left
  · unfold halfC
    refine (List.perm_append_singleton _ [cD tg (zN zS) [], cD td (zN zS) [], cL a2 zI (d.map (·.2)), cL a1 zS (d.map (·.1))]).trans (.cons _ (.swap _ _ _))
  bv_omega
  refine kn_forS (S := List SRow) (r := z3 zS (zL zS) (zL zS)) (xs := srs) (fun _ => [some (zAt x), some (iz zPR d), some (iz zSR srs), some (zAt a1), some (zAt a2), none, none, none, none])
    (fun ss => halfC x C dx td tg (d.map (·.1)) (d.map (·.2)) ss ++ [cL a2 zI (d.map (·.2)), cL a1 zS (d.map (·.1))])
    (fun i ss => ss = (srs.take i).map (ordRow (d.map (·.1))) ∧ stepsDue (d.map (·.1)) [] srs = stepsDue (d.map (·.1)) ((srs.take i).map (·.1)) (srs.drop i)) [] ?_ ?_ ⟨rfl, rfl⟩ (fun x s => tg3 (by decide) (by decide) (by decide)) (fun fr' le i r ss hi hP => ?_) (fun ss hP => ?_)
  · ac_rfl
  · and_intros
  · obtain ⟨hs, hsd⟩ := hP
    have hnm : ss.map (·.1) = (srs.take i).map (·.1) := by rw [hs, List.map_map]; rfl
    rw [drop_at hi, stepsDue_cons] at hsd
    obtain ⟨o1, o2, o3⟩ := okS r (List.mem_of_getElem? hi)
    have lss : ss.length ≤ 16 := by rw [hs, List.length_map, List.length_take]; omega
    subst_vars
    refine kn_drop (we_met (we_var rfl ⟨ins_C (.head _) rfl, ?_⟩))
    ac_rfl
    refine sps_C (Θr := [cL a2 zI (d.map (·.2)), cL a1 zS (d.map (·.1))]) ⟨x, dx, td, tg, d.map (·.1), d.map (·.2), ss, r, rfl, rfl, o1, o2, o3, by rw [List.length_map]; omega, lss, rfl, rfl⟩ (.refl _) (fun p Θ' ⟨hdn, hp, hΘ⟩ => ?_) (fun e Θ' ⟨y, hy, he, hΘ⟩ => ?_)
    · subst hp hΘ
      rw [hnm] at hdn
      rw [hdn] at hsd
      refine kn_back (ss ++ [ordRow (d.map (·.1)) r]) ?_ ⟨?_, ?_⟩ rfl
      · and_intros
      · rw [take_more hi, List.map_append, hs]
        rfl
      · rw [hsd, take_more hi, List.map_append]
        rfl
    · subst he hΘ
      rw [hnm] at hy
      rw [hy] at hsd
      exact er le (by rw [hpd]; exact hsd)
  obtain ⟨hs, hsd⟩ := hP
  rw [List.take_length] at hs
  rw [List.drop_length] at hsd
  have hsd : stepsDue (d.map (·.1)) [] srs = none := hsd
  have hall : planDue d srs = none := by rw [hpd]; exact hsd
  have hok := planDue_ok hall
  have hss : (planOf d srs).steps = ss := by rw [hs]; rfl
  subst_vars
  refine kn_fldPut ?_
  ac_rfl
  refine ⟨_, fld_C (.head _) T_Plan.cl T_Plan.nT rfl, ?_⟩
  ac_rfl
  refine cb_listD (dic_C (.tail _ (.head _))) (fun y hy => ?_) ?_
  · obtain ⟨r, hr, rfl⟩ := List.mem_map.mp hy
    rw [← hss] at hr
    exact (hok.st r hr).1.asc
  ac_rfl
  refine ⟨x, C, dx, _, 0, rfl, rfl, T_Plan.cl, T_Plan.nS, (show 4 < 1000 by decide), ?_⟩
  intro σ F' H' ok env
  have ed : (planOf d srs).names = (tkR ss).map (·.1) := by
    unfold PlanD.names tkR
    rw [hss, List.map_map]
    rfl
  have etk : (planOf d srs).tk = tkR ss := by unfold PlanD.tk tkR; rw [hss]
  have egv : (planOf d srs).gv = gvR ss := by unfold PlanD.gv gvR; rw [hss]
  rw [← ed] at ok
  have ok : OkF fr (cI x C dx [("places", iz zK (planOf d srs).places), ("begin", iz (zT zI) (planOf d srs).begin), ("taken", zAt td), ("given", zAt tg), ("steps", iz (zT zS) (planOf d srs).names)] :: cD td (zN zS) (planOf d srs).tk :: cD tg (zN zS) (planOf d srs).gv :: [cL a2 zI (d.map (·.2)), cL a1 zS (d.map (·.1))]) F' H' := by
    rw [etk, egv]
    exact ok
  obtain ⟨F2, ok2, hp2⟩ := plan_frz ok hok
  exact hQ _ ⟨hall, rfl⟩ σ F2 H' ⟨_, ok2⟩ hp2
end
section
variable {P : Program} {w : World} {K : PySem.W.Frag} {mg : Str → Option Value} {base : Heap}
theorem fs_due {F : Hp} {cs : EK → Addr} {y : PErr} {us : List (Str × V)} (hb : ∀ z, strE y = some z → z.length ≤ 1000) (hk : ∀ k l, y = .tooMany k l → k.length ≤ 1000) (h : FsOk F (erOf (ecs cs) y).fs us) : FsOk F (erW cs (heOf y)).fs us ∧ (erOf (ecs cs) y).C = (erW cs (heOf y)).C := by
  have up : ∀ {z : Str} {v : V}, z.length ≤ 1000 → (iz zS z).p F v → (iz yS z).p F v := fun hz h => ⟨h, Nat.le_trans hz (by decide)⟩
  cases y with
  | tooMany k l =>
    refine ⟨?_, rfl⟩
    cases h with
    | cons h1 h => cases h with
      | cons h2 h => exact .cons h1 (.cons ⟨h2.1, up (hk k l rfl) h2.2⟩ h)
  | badWord z =>
    refine ⟨?_, rfl⟩
    cases h with
    | cons h1 h => exact .cons ⟨h1.1, up (hb z rfl) h1.2⟩ h
  | double z =>
    refine ⟨?_, rfl⟩
    cases h with
    | cons h1 h => exact .cons ⟨h1.1, up (hb z rfl) h1.2⟩ h
  | badNumber n => exact ⟨h, rfl⟩
  | empty z =>
    refine ⟨?_, rfl⟩
    cases h with
    | cons h1 h => exact .cons ⟨h1.1, up (hb z rfl) h1.2⟩ h
  | unknown z =>
    refine ⟨?_, rfl⟩
    cases h with
    | cons h1 h => exact .cons ⟨h1.1, up (hb z rfl) h1.2⟩ h
theorem due_kind {prs : List (Str × Int)} {srs : List SRow} {k : Str} {l : Int} (h : planDue prs srs = some (.tooMany k l)) : k.length ≤ 1000 := by
  have hp : ∀ (seen : List Str) (prs : List (Str × Int)), placesDue seen prs ≠ some (.tooMany k l) := by
    intro seen prs
    induction prs generalizing seen with
    | nil => intro h; cases h
    | cons r prs ih =>
      obtain ⟨w, n⟩ := r
      rw [placesDue_cons]
      split
      · split
        · intro h; cases h
        · split
          · exact ih _
          · intro h; cases h
      · intro h; cases h
  have hn : ∀ x, nameErr x ≠ .tooMany k l := by
    intro x
    obtain ⟨b, n⟩ := x
    cases b <;> intro h <;> cases h
  have hs : ∀ (ps seen : List Str) (srs : List SRow), stepsDue ps seen srs ≠ some (.tooMany k l) := by
    intro ps seen srs
    induction srs generalizing seen with
    | nil => intro h; cases h
    | cons s srs ih =>
      rw [stepsDue_cons]
      split
      · rename_i e he
        intro h
        cases h
        unfold stepDue at he
        split at he
        · split at he
          · cases he
          · split at he
            · cases he
            · split at he
              · rename_i x hx
                exact hn x (Option.some.inj he)
              · obtain ⟨x, _, e2⟩ := Option.map_eq_some_iff.mp he
                exact hn x e2
        · cases he
      · exact ih _
  unfold planDue at h
  split at h
  · cases h; decide
  · split at h
    · cases h; decide
    · split at h
      · rename_i e he
        cases h
        exact absurd he (hp _ _)
      · exact absurd h (hs _ _ _)
theorem planW {cs : EK → Addr} {C : Addr} {k : Nat} {ps : List Str} (D : DefI P w K mg base (L2.CX P w) k C ps (spI C (preInit (ecs cs) C))) : DefI P w K mg base (L2.CX P w) k C ps (spI C (preW (erW cs) (fun x : List (Str × Int) × List SRow => [iz yPR x.1, iz ySR x.2]) (zPlan C) (fun x => mk_Plan x.1 x.2))) := D.imp fun vs H Q E ⟨x, dx, vs', F, qs, out, err, h1, h2, h3, h4, h5, ⟨⟨prs, srs⟩, Qm, Xm, e1, ⟨hb, hq, hx⟩, e2, e3⟩, ho, he⟩ => by
  subst e1 e2 e3
  have ok1 : PRowsOk prs := hb.1
  have ok2 : SRowsOk srs := fun r hr => ⟨(hb.2 r hr).1, (hb.2 r hr).2.1, (hb.2 r hr).2.2.1⟩
  refine ⟨x, dx, vs', F, [iz zPR prs, iz zSR srs], _, _, h1, h2, h3, h4, ?_, ⟨prs, srs, rfl, ok1, ok2, rfl, rfl⟩, fun p ⟨hd, e⟩ => ho p ⟨_, hq hd, e⟩, fun e ⟨y, hy, e2⟩ F' H' d us a1 a2 a3 a4 a5 a6 => ?_⟩
  · cases h5 with
    | cons b1 h5 => cases h5 with
      | cons b2 h5 => cases h5 with
        | nil => exact .cons (le_PR _ _ b1) (.cons (le_SR _ _ b2) .nil)
  · subst e2
    obtain ⟨c1, c2⟩ := fs_due (cs := cs) (fun z hz => due_str hb hy hz) (fun k l e => by subst e; exact due_kind hy) a6
    rw [c2]
    exact he (erW cs (heOf y)) ⟨_, hx y hy, rfl⟩ F' H' d us a1 a2 a3 a4 a5 c1
end
def spLaw (K : PySem.W.Frag) : Sp := fun vs H Q _ => ∃ (a : Addr) (ns : List Int), vs = [.ref a] ∧ SqL K H a (ns.map V.int) ∧ ns.length ≤ 63 ∧ ∀ H', Q (.bl true) H'
section
variable {P : Program} {w : World} {K : PySem.W.Frag} {mg : Str → Option Value} {base : Heap}
abbrev s_Plan_place_rows : Stmt := inClass (topS 23) 5
theorem sc_Plan_place_rows : FnScope ["self", "k"] ["self"] (defScope s_Plan_place_rows) := ⟨rfl, rfl, rfl, by decide +kernel, rfl, by decide +kernel, by decide +kernel⟩
def m_Plan_place_rows (p_self : PlanD) : DM (List (Str × Int)) := fun Q X =>
  mapD (intsF 0 (((p_self.places).length : Int)).toNat) [] (fun x1 k2 =>
  ∃ v6, atI p_self.places x1 = some v6 ∧
  ∃ v7, atI p_self.begin x1 = some v7 ∧
  k2 (v6, v7)) (fun ys3 =>
  Q ys3)
theorem ok_Plan_place_rows {k : Nat} {cs : EK → Addr} {C : Addr} (B : Bl mg) (T_Plan : PlanC K mg C)
    (F : SrcM K C "place_rows" "Plan.place_rows" s_Plan_place_rows ["self"]) : DefM P w K mg base CX0 (k + 1) C "place_rows" ["self"] (spA (preW (erW cs) (fun x : PlanD => [iz (zPlan C) x]) (yL (z2 yS zI)) (fun x => m_Plan_place_rows x))) := by
  refine F.okW sc_Plan_place_rows (fun _ => rfl) (fun f cdv A outer s H E p_self Q X hr h => ⟨_, (pss_one (ps_ret (pe_lc (own := [("k", 1)]) (g := gName 1) (by rfl) sc_Plan_place_rows.nd (pi_range1 (by rfl) B.range (pa_cons (pe_callB (kcall_len (K := K)) (by rfl) B.len PySem.boot_len (pa_cons (kpe_fld (K := K) (pv 0)) pa_nil)) pa_nil)) (blkOk_by (N := ["self", "k"]) (sc := defScope s_Plan_place_rows) (by decide +kernel)) (fun _ _ _ _ _ => (pg_name (i := 1) sc_Plan_place_rows.nd rfl (Or.inl rfl))) (fun _ _ _ _ _ => pts_nil) (fun _ _ _ _ _ => (pe_tup (pa_cons (pe_ix (kix_tup (K := K)) (kpe_fld (K := K) (pv 0)) (pv 1) (fun _ _ => rfl)) (pa_cons (pe_ix (kix_tup (K := K)) (kpe_fld (K := K) (pv 0)) (pv 1) (fun _ _ => rfl)) pa_nil))))))), fun fr Qv hret => ?_⟩)
  replace h : m_Plan_place_rows p_self Q X := h
  unfold m_Plan_place_rows at h
  refine kn_ret (we_lcM (r := zI) (s := (z2 yS zI)) (wi_range (wa_cons (we_cb (wa_cons (we_fld (we_var rfl (⟨_, fy_places T_Plan, wa_nil (cy_len sy_T (fun e4 => (wa_nil (⟨_, rfl, (by have hb : big = 100000 := rfl; omega), (by have hb : big = 100000 := rfl; omega), ⟨_, _, _, _, rfl, rfl, (intsF_big (by have hb : big = 100000 := rfl; omega)), fun _ => tg_name, h, fun x1 c k2 h => ?_, fun ys3 h eys3 => ?_⟩⟩))))⟩))))))))
  · refine we_tup (wa_cons (we_op (we_fld (we_var rfl (⟨_, fy_places T_Plan, we_var rfl ?_⟩)))))
    obtain ⟨v6, ev6, h⟩ := h
    refine oy_ixT ev6 (wa_cons (we_op (we_fld (we_var rfl (⟨_, fy_begin T_Plan, we_var rfl ?_⟩)))))
    obtain ⟨v7, ev7, h⟩ := h
    refine oy_ixT ev7 (wa_nil (⟨Nat.le_of_ble_eq_true rfl, iz (z2 yS zI) (v6, v7), tr2, ?_⟩))
    exact ⟨rfl, _, rfl, h⟩
  exact hret _ h _
abbrev s_Plan_step_rows : Stmt := inClass (topS 23) 6
theorem sc_Plan_step_rows : FnScope ["self", "step"] ["self"] (defScope s_Plan_step_rows) := ⟨rfl, rfl, rfl, by decide +kernel, rfl, by decide +kernel, by decide +kernel⟩
def m_Plan_step_rows (p_self : PlanD) : DM (List (Str × (List Str) × (List Str))) := fun Q X =>
  mapD p_self.names [] (fun x1 k2 =>
  ∃ v6, getR p_self.tk x1 = some v6 ∧
  ∃ v7, getR p_self.gv x1 = some v7 ∧
  k2 (x1, v6, v7)) (fun ys3 =>
  Q ys3)
theorem ok_Plan_step_rows {k : Nat} {cs : EK → Addr} {C : Addr} (B : Bl mg) (T_Plan : PlanC K mg C)
    (F : SrcM K C "step_rows" "Plan.step_rows" s_Plan_step_rows ["self"]) : DefM P w K mg base CX0 (k + 1) C "step_rows" ["self"] (spA (preW (erW cs) (fun x : PlanD => [iz (zPlan C) x]) (yL (z3 yS (yL yS) (yL yS))) (fun x => m_Plan_step_rows x))) := by
  refine F.okW sc_Plan_step_rows (fun _ => rfl) (fun f cdv A outer s H E p_self Q X hr h => ⟨_, (pss_one (ps_ret (pe_lc (own := [("step", 1)]) (g := gName 1) (by rfl) sc_Plan_step_rows.nd (kpi_tup (K := K) (kpe_fld (K := K) (pv 0))) (blkOk_by (N := ["self", "step"]) (sc := defScope s_Plan_step_rows) (by decide +kernel)) (fun _ _ _ _ _ => (pg_name (i := 1) sc_Plan_step_rows.nd rfl (Or.inl rfl))) (fun _ _ _ _ _ => pts_nil) (fun _ _ _ _ _ => (pe_tup (pa_cons (pv 1) (pa_cons (pe_callTy (kcall_list (K := K)) (by rfl) B.list' (by decide +kernel) (pa_cons (pe_dget (hu_of hr) (kpe_fld (K := K) (pv 0)) (pv 1) (fun _ _ => rfl)) pa_nil)) (pa_cons (pe_callTy (kcall_list (K := K)) (by rfl) B.list' (by decide +kernel) (pa_cons (pe_dget (hu_of hr) (kpe_fld (K := K) (pv 0)) (pv 1) (fun _ _ => rfl)) pa_nil)) pa_nil)))))))), fun fr Qv hret => ?_⟩)
  replace h : m_Plan_step_rows p_self Q X := h
  unfold m_Plan_step_rows at h
  refine kn_ret (we_lcM (r := yS) (s := (z3 yS (yL yS) (yL yS))) (wi_yT (we_fld (we_var rfl (⟨_, fy_steps T_Plan, ⟨_, _, _, _, rfl, fun e4 => ⟨_, _, _, _, rfl, rfl, e4, fun _ => tg_name, h, fun x1 c k2 h => ?_, fun ys3 h eys3 => ?_⟩⟩⟩)))))
  · refine we_tup (wa_cons (we_var rfl (wa_cons (we_cb (wa_cons (wy_dget (we_fld (we_var rfl (⟨_, fy_taken T_Plan, we_var rfl ?_⟩)))))))))
    obtain ⟨v6, ev6, h⟩ := h
    refine ⟨_, _, _, _, _, dy_D, rfl, ev6, wa_nil (cy_list sy_T (wa_cons (we_cb (wa_cons (wy_dget (we_fld (we_var rfl (⟨_, fy_given T_Plan, we_var rfl ?_⟩))))))))⟩
    obtain ⟨v7, ev7, h⟩ := h
    refine ⟨_, _, _, _, _, dy_D, rfl, ev7, wa_nil (cy_list sy_T (wa_nil (⟨Nat.le_of_ble_eq_true rfl, iz (z3 yS (yL yS) (yL yS)) (x1, v6, v7), tr3, ?_⟩)))⟩
    exact ⟨rfl, _, rfl, h⟩
  exact hret _ h _
abbrev s_Plan___eq__ : Stmt := inClass (topS 23) 12
theorem sc_Plan___eq__ : FnScope ["self", "other"] ["self", "other"] (defScope s_Plan___eq__) := ⟨rfl, rfl, rfl, by decide +kernel, rfl, by decide +kernel, by decide +kernel⟩
def m_Plan___eq__ (p_self : PlanD) (p_other : PlanD) : DM Bool := fun Q X =>
  ifD (!true) (
  True) (
  ifD ((!decide (p_self.places = p_other.places)) || (!decide (p_self.begin = p_other.begin))) (
  Q false) (
  Q ((decide (p_self.names = p_other.names)) && ((dEq p_self.tk p_other.tk) && (dEq p_self.gv p_other.gv)))))
theorem ok_Plan___eq__ {k : Nat} {cs : EK → Addr} {C : Addr} (B : Bl mg) (T_Plan : PlanC K mg C) (O_Plan : IsO K C) (kt_Plan_Plan : PySem.W.kitOne K (.ref C) (.ref C) = some true)
    (F : SrcM K C "__eq__" "Plan.__eq__" s_Plan___eq__ ["self", "other"]) : DefM P w K mg base CX0 (k + 1) C "__eq__" ["self", "other"] (spA (preW (erW cs) (fun x : PlanD × PlanD => [iz (zPlan C) x.1, iz (zPlan C) x.2]) zB (fun x => m_Plan___eq__ x.1 x.2))) := by
  refine F.okW sc_Plan___eq__ (fun _ => rfl) (fun f cdv A outer s H E x Q X hr h => ⟨_, (pss_cons (ps_if (pt_not (pt_val (pe_callB (kcall_isi (K := K)) (by rfl) B.isinstance (by decide +kernel) (pa_cons (pv 1) (pa_cons (pe_glo (glo_plan T_Plan)) pa_nil))))) pss_false pss_nil)
 (pss_cons (ps_if (PW.pt (pw_or (pt_cmpR (kop_neD (K := K) hr.units) (kpe_fld (K := K) (pv 0)) (kpe_fld (K := K) (pv 1)) (nomark _)) (pw_or1 (pt_cmpR (kop_neD (K := K) hr.units) (kpe_fld (K := K) (pv 0)) (kpe_fld (K := K) (pv 1)) (nomark _))))) (pss_one (ps_ret pe_bl)) pss_nil)
 (pss_one (ps_ret (pe_and (pe_cmpR (kop_eqD (K := K) hr.units) (kpe_fld (K := K) (pv 0)) (kpe_fld (K := K) (pv 1)) (nomark _)) (pe_and (pe_cmpR (op_eqDD (K := K) (un200 hr)) (kpe_fld (K := K) (pv 0)) (kpe_fld (K := K) (pv 1)) (nomark _)) (pe_one (pe_cmpR (op_eqDD (K := K) (un200 hr)) (kpe_fld (K := K) (pv 0)) (kpe_fld (K := K) (pv 1)) (nomark _))))))))), fun fr Qv hret => ?_⟩)
  obtain ⟨p_self, p_other⟩ := x
  replace h : m_Plan___eq__ p_self p_other Q X := h
  unfold m_Plan___eq__ at h
  refine kn_seq (kn_if (wt_not (wt_b (we_cb (wa_cons (we_var rfl (wa_cons (we_cA (wa_nil (cb_isO O_Plan (InsP.c (ins_plan (m := "__contains__") rfl)) kt_Plan_Plan (⟨_, rfl, ⟨fun hc => ?_, fun hc => ?_⟩⟩)))))))))))
  · exact absurd hc (by decide)
  · have h := h.2 hc
    refine kn_next ?_
    try dsimp only
    refine kn_seq (kn_if (wt_orP (wt_test (we_op (we_fld (we_var rfl (⟨_, fy_places T_Plan, we_fld (we_var rfl (⟨_, fy_places T_Plan, ops_neD (r := (yT yS)) (by decide) (⟨_, rfl, ⟨_, fun _ => wt_test (we_op (we_fld (we_var rfl (⟨_, fy_begin T_Plan, we_fld (we_var rfl (⟨_, fy_begin T_Plan, ops_neD (r := (yT zI)) (by decide) (⟨_, rfl, ⟨rfl, rfl⟩⟩)⟩))⟩)))), ⟨fun hc => ?_, fun hc => ?_⟩⟩⟩)⟩))⟩)))))))
    · have h := h.1 hc
      refine kn_ret (we_cB ?_)
      exact hret _ h _
    · have h := h.2 hc
      refine kn_next ?_
      try dsimp only
      refine kn_ret (we_andP (we_op (we_fld (we_var rfl (⟨_, fy_steps T_Plan, we_fld (we_var rfl (⟨_, fy_steps T_Plan, ops_eqD (r := (yT yS)) (by decide) (⟨_, _, rfl, fun _ => we_andP (we_op (we_fld (we_var rfl (⟨_, fy_taken T_Plan, we_fld (we_var rfl (⟨_, fy_taken T_Plan, oy_eqDD (r := (yT yS)) (by decide) (⟨_, _, rfl, fun _ => we_op (we_fld (we_var rfl (⟨_, fy_given T_Plan, we_fld (we_var rfl (⟨_, fy_given T_Plan, oy_eqDD (r := (yT yS)) (by decide) (⟨rfl, rfl⟩)⟩))⟩))), ⟨rfl, rfl⟩⟩)⟩))⟩)))), ?_⟩)⟩))⟩)))))
      exact hret _ h _
abbrev s_Plan___getitem__ : Stmt := inClass (topS 23) 8
theorem sc_Plan___getitem__ : FnScope ["self", "place"] ["self", "place"] (defScope s_Plan___getitem__) := ⟨rfl, rfl, rfl, by decide +kernel, rfl, by decide +kernel, by decide +kernel⟩
def m_Plan___getitem__ (p_self : PlanD) (p_place : Str) : DM Int := fun Q X =>
  ifD (!decide (p_place ∈ p_self.places)) (
  X (.unknown p_place)) (
  p_self.places ≠ [] ∧
  p_place ∈ p_self.places ∧
  ∃ v3, atI p_self.begin ((p_self.places).idxOf p_place : Int) = some v3 ∧
  Q v3)
theorem ok_Plan___getitem__ {k : Nat} {cs : EK → Addr} {C f_UnknownName : Addr} (B : Bl mg) (T_Plan : PlanC K mg C) (X_UnknownName : ErrTxt P K mg false "UnknownName" (cs .unknown) f_UnknownName ["name"])
    (F : SrcM K C "__getitem__" "Plan.__getitem__" s_Plan___getitem__ ["self", "place"]) : DefM P w K mg base (L2.CX P w) (k + 1) C "__getitem__" ["self", "place"] (spA (preW (erW cs) (fun x : PlanD × Str => [iz (zPlan C) x.1, iz yS x.2]) zI (fun x => m_Plan___getitem__ x.1 x.2))) := by
  refine F.okWX sc_Plan___getitem__ (fun _ => rfl) (fun f cdv A outer s H E x Q X hr h => ⟨_, (pss_cons (ps_if (pt_cmpR (kop_notIn (K := K)) (pv 1) (kpe_fld (K := K) (pv 0)) rfl) (pss_one (ps_raiseE rfl X_UnknownName hr (takes_of rfl rfl rfl rfl) (pa_cons (pv 1) pa_nil))) pss_nil)
 (pss_one (ps_ret (pe_ix (kix_tup (K := K)) (kpe_fld (K := K) (pv 0)) (pe_ixK (K := K) (kpe_fld (K := K) (pv 0)) (pa_cons (pv 1) pa_nil)) (fun _ _ => rfl))))), fun fr Qv hret hrse => ?_⟩)
  obtain ⟨p_self, p_place⟩ := x
  replace h : m_Plan___getitem__ p_self p_place Q X := h
  unfold m_Plan___getitem__ at h
  refine kn_seq (kn_if (wt_test (we_op (we_var rfl (we_fld (we_var rfl (⟨_, fy_places T_Plan, oy_ninS sy_T (⟨_, rfl, ⟨fun hc => ?_, fun hc => ?_⟩⟩)⟩)))))))
  · have h := h.1 hc
    refine kn_raiseY (wa_cons (we_var rfl (wa_nil ?_)))
    exact ⟨rfl, (fun h => nomatch h), hrse _ h _ _⟩
  · have h := h.2 hc
    refine kn_next ?_
    try dsimp only
    refine kn_ret (we_op (we_fld (we_var rfl (⟨_, fy_begin T_Plan, we_ixK (we_fld (we_var rfl (⟨_, fk_places T_Plan, ?_⟩)))⟩))))
    obtain ⟨g1, h⟩ := h
    refine ⟨_, rfl, g1, wa_cons (we_var rfl (wa_nil ?_))⟩
    obtain ⟨g2, h⟩ := h
    refine ⟨_, rfl, g2, ?_⟩
    obtain ⟨v3, ev3, h⟩ := h
    refine oy_ixT ev3 ?_
    exact hret _ h _
abbrev s_check_place : Stmt := topS 25
theorem sc_check_place : FnScope ["plan", "place"] ["plan", "place"] (defScope s_check_place) := ⟨rfl, rfl, rfl, by decide +kernel, rfl, by decide +kernel, by decide +kernel⟩
def m_check_place (p_plan : PlanD) (p_place : Str) : DM Unit := fun Q X =>
  ifD (!decide (p_place ∈ p_plan.places)) (
  X (.unknown p_place)) (
  Q ())
theorem ok_check_place {k : Nat} {cs : EK → Addr} {C f_UnknownName : Addr} (B : Bl mg) (T_Plan : PlanC K mg C) (X_UnknownName : ErrTxt P K mg false "UnknownName" (cs .unknown) f_UnknownName ["name"])
    (F : Src K mg "check_place" s_check_place ["plan", "place"]) : Def P w K mg base (L2.CX P w) (k + 1) "check_place" ["plan", "place"] (spA (preW (erW cs) (fun x : PlanD × Str => [iz (zPlan C) x.1, iz yS x.2]) yN (fun x => m_check_place x.1 x.2))) := by
  refine F.okWX sc_check_place (fun _ => rfl) (fun f cdv A outer s H E x Q X hr h => ⟨_, (pss_one (ps_if (pt_cmpR (kop_notIn (K := K)) (pv 1) (kpe_fld (K := K) (pv 0)) rfl) (pss_one (ps_raiseE rfl X_UnknownName hr (takes_of rfl rfl rfl rfl) (pa_cons (pv 1) pa_nil))) pss_nil)), fun fr Qv hret hrse => ?_⟩)
  obtain ⟨p_plan, p_place⟩ := x
  replace h : m_check_place p_plan p_place Q X := h
  unfold m_check_place at h
  refine kn_if (wt_test (we_op (we_var rfl (we_fld (we_var rfl (⟨_, fy_places T_Plan, oy_ninS sy_T (⟨_, rfl, ⟨fun hc => ?_, fun hc => ?_⟩⟩)⟩))))))
  · have h := h.1 hc
    refine kn_raiseY (wa_cons (we_var rfl (wa_nil ?_)))
    exact ⟨rfl, (fun h => nomatch h), hrse _ h _ _⟩
  · have h := h.2 hc
    refine kn_next ?_
    exact kn_fall (hret _ h _)
abbrev s_with_place : Stmt := topS 26
theorem sc_with_place : FnScope ["places", "place", "new_place"] ["places", "place", "new_place"] (defScope s_with_place) := ⟨rfl, rfl, rfl, by decide +kernel, rfl, by decide +kernel, by decide +kernel⟩
def m_with_place (p_places : (List Str)) (p_place : Str) (p_new_place : Str) : DM (List Str) := fun Q X =>
  ifD (decide (p_place ∈ p_places)) (
  (p_places).length + ([p_new_place]).length ≤ big ∧
  Q (p_places ++ [p_new_place])) (
  Q p_places)
theorem ok_with_place {k : Nat} {cs : EK → Addr} (B : Bl mg) 
    (F : Src K mg "with_place" s_with_place ["places", "place", "new_place"]) : Def P w K mg base CX0 (k + 1) "with_place" ["places", "place", "new_place"] (spA (preW (erW cs) (fun x : (List Str) × Str × Str => [iz (yL yS) x.1, iz yS x.2.1, iz yS x.2.2]) (yL yS) (fun x => m_with_place x.1 x.2.1 x.2.2))) := by
  refine F.okW sc_with_place (fun _ => rfl) (fun f cdv A outer s H E x Q X hr h => ⟨_, (pss_cons (ps_if (pt_cmpR (kop_in (K := K)) (pv 1) (pv 0) rfl) (pss_one (ps_ret (pe_op op_cat (pv 0) (pe_lst (pa_cons (pv 2) pa_nil))))) pss_nil)
 (pss_one (ps_ret (pv 0)))), fun fr Qv hret => ?_⟩)
  obtain ⟨p_places, p_place, p_new_place⟩ := x
  replace h : m_with_place p_places p_place p_new_place Q X := h
  unfold m_with_place at h
  refine kn_seq (kn_if (wt_test (we_op (we_var rfl (we_var rfl (oy_inS sy_L (⟨_, rfl, ⟨fun hc => ?_, fun hc => ?_⟩⟩)))))))
  · have h := h.1 hc
    refine kn_ret (we_op (we_var rfl (we_lstY (r := yS) (wa_cons (we_var rfl (wa_nil (⟨[p_new_place], rfl, Nat.le_of_ble_eq_true rfl, ?_⟩)))))))
    obtain ⟨g1, h⟩ := h
    refine oy_cat g1 ?_
    exact hret _ h _
  · have h := h.2 hc
    refine kn_next ?_
    try dsimp only
    refine kn_ret (we_var rfl ?_)
    exact hret _ h _
abbrev s_stretch : Stmt := topS 27
theorem sc_stretch : FnScope ["plan", "place", "new_place", "new_step", "steps", "step", "takes", "gives", "taken"] ["plan", "place", "new_place", "new_step"] (defScope s_stretch) := ⟨rfl, rfl, rfl, by decide +kernel, rfl, by decide +kernel, by decide +kernel⟩
def m_stretch (p_plan : PlanD) (p_place : Str) (p_new_place : Str) (p_new_step : Str) : DM PlanD := fun Q X =>
  m_check_place p_plan p_place (fun v1 =>
  m_Plan_step_rows p_plan (fun v5 =>
  forD v5 ([]) (fun x4 s3 nx bk =>
  (s3).length < big ∧
  nx (s3 ++ [(x4.1, ((x4.2.1).map fun x7 => (bif (decide (x7 = p_place)) then p_new_place else x7)), x4.2.2)])) (fun s3 =>
  (s3).length < big ∧
  m_Plan_place_rows p_plan (fun v11 =>
  (v11).length + ([(p_new_place, (0 : Int))]).length ≤ big ∧
  mk_Plan (v11 ++ [(p_new_place, (0 : Int))]) (s3 ++ [(p_new_step, [p_place], [p_new_place])]) (fun v13 =>
  Q v13) X) noX)) noX) X
theorem ok_stretch {k : Nat} {cs : EK → Addr} {C : Addr} (B : Bl mg) (T_Plan : PlanC K mg C) (D_check_place : Def P w K mg base (L2.CX P w) (k + 1) "check_place" ["plan", "place"] (spA (preW (erW cs) (fun x : PlanD × Str => [iz (zPlan C) x.1, iz yS x.2]) yN (fun x => m_check_place x.1 x.2)))) (DM_Plan_step_rows : DefM P w K mg base CX0 (k + 1) C "step_rows" ["self"] (spA (preW (erW cs) (fun x : PlanD => [iz (zPlan C) x]) (yL (z3 yS (yL yS) (yL yS))) (fun x => m_Plan_step_rows x)))) (DM_Plan_place_rows : DefM P w K mg base CX0 (k + 1) C "place_rows" ["self"] (spA (preW (erW cs) (fun x : PlanD => [iz (zPlan C) x]) (yL (z2 yS zI)) (fun x => m_Plan_place_rows x)))) (m_Plan : mg "Plan" = some (.ref C)) (DI_Plan : DefI P w K mg base (L2.CX P w) k C ["self", "places", "steps"] (spI C (preW (erW cs) (fun x : List (Str × Int) × List SRow => [iz yPR x.1, iz ySR x.2]) (zPlan C) (fun x => mk_Plan x.1 x.2))))
    (F : Src K mg "stretch" s_stretch ["plan", "place", "new_place", "new_step"]) : Def P w K mg base (L2.CX P w) (k + 2) "stretch" ["plan", "place", "new_place", "new_step"] (spA (preW (erW cs) (fun x : PlanD × Str × Str × Str => [iz (zPlan C) x.1, iz yS x.2.1, iz yS x.2.2.1, iz yS x.2.2.2]) (zPlan C) (fun x => m_stretch x.1 x.2.1 x.2.2.1 x.2.2.2))) := by
  refine F.okWX sc_stretch (fun _ => rfl) (fun f cdv A outer s H E x Q X hr h => ⟨_, (pss_cons (ps_expr (pe_def D_check_place hr (passes_call (takes_of rfl rfl rfl rfl) (fun _ _ _ _ h => h)) (pa_cons (pv 0) (pa_cons (pv 1) pa_nil))))
 (pss_cons (ps_asg (pe_lst pa_nil) (pg_name (i := 4) sc_stretch.nd rfl (Or.inl rfl)))
 (pss_cons (ps_for (passes_of rfl) rfl (kpi_list (K := K) (pe_metD0 DM_Plan_step_rows T_Plan.cl hr passAt0 (pv 0))) (kpg_tup (K := K) (n := 3) rfl (pgs_cons (pg_name (i := 5) sc_stretch.nd rfl (Or.inl rfl)) (pgs_cons (pg_name (i := 6) sc_stretch.nd rfl (Or.inl rfl)) (pgs_cons (pg_name (i := 7) sc_stretch.nd rfl (Or.inl rfl)) pgs_nil)))) (pss_one (ps_expr (pe_bm PySem.F.plainAttrs_list PySem.F.slot_list_append PySem.F.type_list_append mt_append (pv 4) (pa_cons (pe_tup (pa_cons (pv 5) (pa_cons (pe_lc (own := [("taken", 8)]) (g := gName 8) (by rfl) sc_stretch.nd (kpi_list (K := K) (pv 6)) (blkOk_by (N := ["plan", "place", "new_place", "new_step", "steps", "step", "takes", "gives", "taken"]) (sc := defScope s_stretch) (by decide +kernel)) (fun _ _ _ _ _ => (pg_name (i := 8) sc_stretch.nd rfl (Or.inl rfl))) (fun _ _ _ _ _ => pts_nil) (fun _ _ _ _ _ => (pe_ifExp (pt_cmpR op_eq (pv 8) (pv 1) (nomark _)) (pv 2) (pv 8)))) (pa_cons (pv 7) pa_nil)))) pa_nil)))))
 (pss_cons (ps_expr (pe_bm PySem.F.plainAttrs_list PySem.F.slot_list_append PySem.F.type_list_append mt_append (pv 4) (pa_cons (pe_tup (pa_cons (pv 3) (pa_cons (pe_lst (pa_cons (pv 1) pa_nil)) (pa_cons (pe_lst (pa_cons (pv 2) pa_nil)) pa_nil)))) pa_nil)))
 (pss_one (ps_ret (pe_mkD DI_Plan m_Plan hr (fun σ => Passes.at (passes_call (takes_of rfl rfl rfl rfl) (fun _ _ _ _ h => h)) σ) (pa_cons (pe_op op_cat (pe_metD0 DM_Plan_place_rows T_Plan.cl hr passAt0 (pv 0)) (pe_lst (pa_cons (pe_tup (pa_cons (pv 2) (pa_cons pe_int pa_nil))) pa_nil))) (pa_cons (pv 4) pa_nil))))))))), fun fr Qv hret hrse => ?_⟩)
  obtain ⟨p_plan, p_place, p_new_place, p_new_step⟩ := x
  replace h : m_stretch p_plan p_place p_new_place p_new_step Q X := h
  unfold m_stretch at h
  refine kn_seq (kn_drop (we_callE (wa_cons (we_var rfl (wa_cons (we_var rfl (wa_nil ?_)))))))
  refine sps_WE hrse (p_plan, p_place) h (fun v1 h => ?_)
  try dsimp only
  refine kn_seq (kn_asg (i := 4) (we_ownY (z3 yS (yL yS) (yL yS)) (wa_nil (⟨[], rfl, Nat.le_of_ble_eq_true rfl, fun a2 => ?_⟩))))
  refine kn_nrm (Γ' := [some (iz (zPlan C) p_plan), some (iz yS p_place), some (iz yS p_new_place), some (iz yS p_new_step), some (zAt a2), none, none, none, none]) rfl ?_
  try dsimp only
  refine kn_seq (kn_forW (r := (z3 yS (yL yS) (yL yS))) (S := (List (Str × (List Str) × (List Str)))) (fun s3 => [some (iz (zPlan C) p_plan), some (iz yS p_place), some (iz yS p_new_place), some (iz yS p_new_step), some (zAt a2), none, none, none, none]) (fun s3 => [cY a2 (z3 yS (yL yS) (yL yS)) s3]) ([]) (wi_yL (we_met (we_var rfl (⟨ins_plan rfl, wa_nil ?_⟩)))))
  refine sps_W0 p_plan h (fun v5 h => ?_)
  refine ⟨_, _, _, rfl, fun e6 => ⟨_, _, _, _, _, rfl, rfl, (by and_intros), fun _ _ => tg3 (by decide) (by decide) (by decide), h, fun fr' le x4 s3 nx M hnx hbk h => ?_, fun s3 h => ?_⟩⟩
  · have hret := hret.fine le
    have hrse := hrse.fine le
    refine kn_appY (i := 4) (j := 0) rfl rfl (we_tup (wa_cons (we_var rfl (wa_cons (we_lcM0 (r := yS) (s := yS) (wi_yL (we_var rfl (⟨_, _, _, rfl, fun e8 => ⟨_, fun x7 => (bif (decide (x7 = p_place)) then p_new_place else x7), _, rfl, rfl, e8, fun x7 => tg_name, fun x7 c => we_ifP (r := yS) (wt_test (we_op (we_var rfl (we_var rfl (oy_eqS (⟨_, rfl, ⟨_, _, fun _ => we_var rfl (⟨rfl, rfl⟩), fun _ => we_var rfl (⟨rfl, rfl⟩), ⟨rfl, rfl⟩⟩⟩)))))), wa_cons (we_var rfl (wa_nil (⟨Nat.le_of_ble_eq_true rfl, iz (z3 yS (yL yS) (yL yS)) (x4.1, ((x4.2.1).map fun x7 => (bif (decide (x7 = p_place)) then p_new_place else x7)), x4.2.2), tr3, ?_⟩)))⟩⟩))))))))
    obtain ⟨g9, h⟩ := h
    refine ⟨_, rfl, rfl, g9, ?_⟩
    exact hnx (s3 ++ [(x4.1, ((x4.2.1).map fun x7 => (bif (decide (x7 = p_place)) then p_new_place else x7)), x4.2.2)]) _ _ h (by and_intros) rfl
  try dsimp only
  refine kn_seq (kn_appY (i := 4) (j := 0) rfl rfl (we_tup (wa_cons (we_var rfl (wa_cons (we_lstY (r := yS) (wa_cons (we_var rfl (wa_nil (⟨[p_place], rfl, Nat.le_of_ble_eq_true rfl, wa_cons (we_lstY (r := yS) (wa_cons (we_var rfl (wa_nil (⟨[p_new_place], rfl, Nat.le_of_ble_eq_true rfl, wa_nil (⟨Nat.le_of_ble_eq_true rfl, iz (z3 yS (yL yS) (yL yS)) (p_new_step, [p_place], [p_new_place]), tr3, ?_⟩)⟩)))))⟩))))))))))
  obtain ⟨g10, h⟩ := h
  refine ⟨_, rfl, rfl, g10, ?_⟩
  try dsimp only
  refine kn_frzY (i := 4) (j := 0) rfl rfl ?_
  refine kn_ret (we_mkP (wa_cons (we_op (we_met (we_var rfl (⟨ins_plan rfl, wa_nil ?_⟩))))))
  refine sps_W0 p_plan h (fun v11 h => ?_)
  refine we_lstY (r := (z2 yS zI)) (wa_cons (we_tup (wa_cons (we_var rfl (wa_cons (we_cI (wa_nil (⟨Nat.le_of_ble_eq_true rfl, iz (z2 yS zI) (p_new_place, (0 : Int)), tr2, wa_nil (⟨[(p_new_place, (0 : Int))], rfl, Nat.le_of_ble_eq_true rfl, ?_⟩)⟩))))))))
  obtain ⟨g12, h⟩ := h
  refine oy_cat g12 (wa_cons (we_var rfl (wa_nil ?_)))
  refine mkWE hrse ((v11 ++ [(p_new_place, (0 : Int))]), (s3 ++ [(p_new_step, [p_place], [p_new_place])])) h (fun v13 h => ?_)
  exact hret _ h _
abbrev s_twin : Stmt := topS 28
theorem sc_twin : FnScope ["plan", "place", "new_place", "steps", "step", "takes", "gives"] ["plan", "place", "new_place"] (defScope s_twin) := ⟨rfl, rfl, rfl, by decide +kernel, rfl, by decide +kernel, by decide +kernel⟩
def m_twin (p_plan : PlanD) (p_place : Str) (p_new_place : Str) : DM PlanD := fun Q X =>
  m_check_place p_plan p_place (fun v1 =>
  m_Plan_step_rows p_plan (fun v5 =>
  forD v5 ([]) (fun x4 s3 nx bk =>
  m_with_place x4.2.1 p_place p_new_place (fun v7 =>
  m_with_place x4.2.2 p_place p_new_place (fun v8 =>
  (s3).length < big ∧
  nx (s3 ++ [(x4.1, v7, v8)])) noX) noX) (fun s3 =>
  m_Plan_place_rows p_plan (fun v10 =>
  m_Plan___getitem__ p_plan p_place (fun v11 =>
  (v10).length + ([(p_new_place, v11)]).length ≤ big ∧
  mk_Plan (v10 ++ [(p_new_place, v11)]) s3 (fun v13 =>
  Q v13) X) X) noX)) noX) X
theorem ok_twin {k : Nat} {cs : EK → Addr} {C : Addr} (B : Bl mg) (T_Plan : PlanC K mg C) (D_check_place : Def P w K mg base (L2.CX P w) (k + 1) "check_place" ["plan", "place"] (spA (preW (erW cs) (fun x : PlanD × Str => [iz (zPlan C) x.1, iz yS x.2]) yN (fun x => m_check_place x.1 x.2)))) (D_with_place : Def P w K mg base CX0 (k + 1) "with_place" ["places", "place", "new_place"] (spA (preW (erW cs) (fun x : (List Str) × Str × Str => [iz (yL yS) x.1, iz yS x.2.1, iz yS x.2.2]) (yL yS) (fun x => m_with_place x.1 x.2.1 x.2.2)))) (DM_Plan_step_rows : DefM P w K mg base CX0 (k + 1) C "step_rows" ["self"] (spA (preW (erW cs) (fun x : PlanD => [iz (zPlan C) x]) (yL (z3 yS (yL yS) (yL yS))) (fun x => m_Plan_step_rows x)))) (DM_Plan_place_rows : DefM P w K mg base CX0 (k + 1) C "place_rows" ["self"] (spA (preW (erW cs) (fun x : PlanD => [iz (zPlan C) x]) (yL (z2 yS zI)) (fun x => m_Plan_place_rows x)))) (GF_Plan : GetFn K C) (m_Plan : mg "Plan" = some (.ref C)) (DI_Plan : DefI P w K mg base (L2.CX P w) k C ["self", "places", "steps"] (spI C (preW (erW cs) (fun x : List (Str × Int) × List SRow => [iz yPR x.1, iz ySR x.2]) (zPlan C) (fun x => mk_Plan x.1 x.2)))) (DMk_Plan___getitem__ : DefM P w K mg base (L2.CX P w) k C "__getitem__" ["self", "place"] (spA (preW (erW cs) (fun x : PlanD × Str => [iz (zPlan C) x.1, iz yS x.2]) zI (fun x => m_Plan___getitem__ x.1 x.2))))
    (F : Src K mg "twin" s_twin ["plan", "place", "new_place"]) : Def P w K mg base (L2.CX P w) (k + 2) "twin" ["plan", "place", "new_place"] (spA (preW (erW cs) (fun x : PlanD × Str × Str => [iz (zPlan C) x.1, iz yS x.2.1, iz yS x.2.2]) (zPlan C) (fun x => m_twin x.1 x.2.1 x.2.2))) := by
  refine F.okWX sc_twin (fun _ => rfl) (fun f cdv A outer s H E x Q X hr h => ⟨_, (pss_cons (ps_expr (pe_def D_check_place hr (passes_call (takes_of rfl rfl rfl rfl) (fun _ _ _ _ h => h)) (pa_cons (pv 0) (pa_cons (pv 1) pa_nil))))
 (pss_cons (ps_asg (pe_lst pa_nil) (pg_name (i := 3) sc_twin.nd rfl (Or.inl rfl)))
 (pss_cons (ps_for (passes_of rfl) rfl (kpi_list (K := K) (pe_metD0 DM_Plan_step_rows T_Plan.cl hr passAt0 (pv 0))) (kpg_tup (K := K) (n := 3) rfl (pgs_cons (pg_name (i := 4) sc_twin.nd rfl (Or.inl rfl)) (pgs_cons (pg_name (i := 5) sc_twin.nd rfl (Or.inl rfl)) (pgs_cons (pg_name (i := 6) sc_twin.nd rfl (Or.inl rfl)) pgs_nil)))) (pss_one (ps_expr (pe_bm PySem.F.plainAttrs_list PySem.F.slot_list_append PySem.F.type_list_append mt_append (pv 3) (pa_cons (pe_tup (pa_cons (pv 4) (pa_cons (pe_def D_with_place hr pass0 (pa_cons (pv 5) (pa_cons (pv 1) (pa_cons (pv 2) pa_nil)))) (pa_cons (pe_def D_with_place hr pass0 (pa_cons (pv 6) (pa_cons (pv 1) (pa_cons (pv 2) pa_nil)))) pa_nil)))) pa_nil)))))
 (pss_one (ps_ret (pe_mkD DI_Plan m_Plan hr (fun σ => Passes.at (passes_call (takes_of rfl rfl rfl rfl) (fun _ _ _ _ h => h)) σ) (pa_cons (pe_op op_cat (pe_metD0 DM_Plan_place_rows T_Plan.cl hr passAt0 (pv 0)) (pe_lst (pa_cons (pe_tup (pa_cons (pv 2) (pa_cons (pe_ixO DMk_Plan___getitem__ GF_Plan hr (fun σ => Passes.at (passes_call (takes_of rfl rfl rfl rfl) (fun _ _ _ _ h => h)) σ) (pv 0) (pv 1) (fun _ _ => rfl)) pa_nil))) pa_nil))) (pa_cons (pv 3) pa_nil)))))))), fun fr Qv hret hrse => ?_⟩)
  obtain ⟨p_plan, p_place, p_new_place⟩ := x
  replace h : m_twin p_plan p_place p_new_place Q X := h
  unfold m_twin at h
  refine kn_seq (kn_drop (we_callE (wa_cons (we_var rfl (wa_cons (we_var rfl (wa_nil ?_)))))))
  refine sps_WE hrse (p_plan, p_place) h (fun v1 h => ?_)
  try dsimp only
  refine kn_seq (kn_asg (i := 3) (we_ownY (z3 yS (yL yS) (yL yS)) (wa_nil (⟨[], rfl, Nat.le_of_ble_eq_true rfl, fun a2 => ?_⟩))))
  refine kn_nrm (Γ' := [some (iz (zPlan C) p_plan), some (iz yS p_place), some (iz yS p_new_place), some (zAt a2), none, none, none]) rfl ?_
  try dsimp only
  refine kn_seq (kn_forW (r := (z3 yS (yL yS) (yL yS))) (S := (List (Str × (List Str) × (List Str)))) (fun s3 => [some (iz (zPlan C) p_plan), some (iz yS p_place), some (iz yS p_new_place), some (zAt a2), none, none, none]) (fun s3 => [cY a2 (z3 yS (yL yS) (yL yS)) s3]) ([]) (wi_yL (we_met (we_var rfl (⟨ins_plan rfl, wa_nil ?_⟩)))))
  refine sps_W0 p_plan h (fun v5 h => ?_)
  refine ⟨_, _, _, rfl, fun e6 => ⟨_, _, _, _, _, rfl, rfl, (by and_intros), fun _ _ => tg3 (by decide) (by decide) (by decide), h, fun fr' le x4 s3 nx M hnx hbk h => ?_, fun s3 h => ?_⟩⟩
  · have hret := hret.fine le
    have hrse := hrse.fine le
    refine kn_appY (i := 3) (j := 0) rfl rfl (we_tup (wa_cons (we_var rfl (wa_cons (we_callE (wa_cons (we_var rfl (wa_cons (we_var rfl (wa_cons (we_var rfl (wa_nil ?_))))))))))))
    refine sps_W0 (x4.2.1, p_place, p_new_place) h (fun v7 h => ?_)
    refine wa_cons (we_callE (wa_cons (we_var rfl (wa_cons (we_var rfl (wa_cons (we_var rfl (wa_nil ?_))))))))
    refine sps_W0 (x4.2.2, p_place, p_new_place) h (fun v8 h => ?_)
    refine wa_nil (⟨Nat.le_of_ble_eq_true rfl, iz (z3 yS (yL yS) (yL yS)) (x4.1, v7, v8), tr3, ?_⟩)
    obtain ⟨g9, h⟩ := h
    refine ⟨_, rfl, rfl, g9, ?_⟩
    exact hnx (s3 ++ [(x4.1, v7, v8)]) _ _ h (by and_intros) rfl
  try dsimp only
  refine kn_frzY (i := 3) (j := 0) rfl rfl ?_
  refine kn_ret (we_mkP (wa_cons (we_op (we_met (we_var rfl (⟨ins_plan rfl, wa_nil ?_⟩))))))
  refine sps_W0 p_plan h (fun v10 h => ?_)
  refine we_lstY (r := (z2 yS zI)) (wa_cons (we_tup (wa_cons (we_var rfl (wa_cons (we_ixO (we_var rfl (we_var rfl (⟨InsP.c (ins_plan (m := "__contains__") rfl), ?_⟩)))))))))
  refine sps_WE hrse (p_plan, p_place) h (fun v11 h => ?_)
  refine wa_nil (⟨Nat.le_of_ble_eq_true rfl, iz (z2 yS zI) (p_new_place, v11), tr2, wa_nil (⟨[(p_new_place, v11)], rfl, Nat.le_of_ble_eq_true rfl, ?_⟩)⟩)
  obtain ⟨g12, h⟩ := h
  refine oy_cat g12 (wa_cons (we_var rfl (wa_nil ?_)))
  refine mkWE hrse ((v10 ++ [(p_new_place, v11)]), s3) h (fun v13 h => ?_)
  exact hret _ h _
end
section
variable {P : Program} {w : World} {K : PySem.W.Frag} {mg : Str → Option Value} {base : Heap}
abbrev s__law_copy : Stmt := topS 44
theorem sc__law_copy : FnScope ["_law_rows", "_law_word_here", "_law_number", "_law_a", "_law_b"] ["_law_rows"] (defScope s__law_copy) := ⟨rfl, rfl, rfl, by decide +kernel, rfl, by decide +kernel, by decide +kernel⟩
def m__law_copy (p_law_rows : ((List (Str × Int)) × (List (Str × (List Str) × (List Str))))) : DM ((List (Str × Int)) × (List (Str × (List Str) × (List Str)))) := fun Q X =>
  Q (((p_law_rows.1).map fun x1 => (x1.1, x1.2)), ((p_law_rows.2).map fun x3 => (x3.1, x3.2.1, x3.2.2)))
theorem ok__law_copy {k : Nat} {cs : EK → Addr} (B : Bl mg) 
    (F : Src K mg "_law_copy" s__law_copy ["_law_rows"]) : Def P w K mg base CX0 (k + 1) "_law_copy" ["_law_rows"] (spA (preW (erW cs) (fun x : ((List (Str × Int)) × (List (Str × (List Str) × (List Str)))) => [iz (z2 (yL (z2 yS zI)) (yL (z3 yS (yL yS) (yL yS)))) x]) (z2 (yL (z2 yS zI)) (yL (z3 yS (yL yS) (yL yS)))) (fun x => m__law_copy x))) := by
  refine F.okW sc__law_copy (fun _ => rfl) (fun f cdv A outer s H E p_law_rows Q X hr h => ⟨_, (pss_one (ps_ret (pe_tup (pa_cons (pe_lc (own := [("_law_word_here", 1), ("_law_number", 2)]) (by rfl) sc__law_copy.nd (kpi_list (K := K) (pe_ix (kix_tup (K := K)) (pv 0) pe_int (fun _ _ => rfl))) (blkOk_by (N := ["_law_rows", "_law_word_here", "_law_number", "_law_a", "_law_b"]) (sc := defScope s__law_copy) (by decide +kernel)) (fun _ _ _ _ _ => (kpg_tup (K := K) (n := 2) rfl (pgs_cons (pg_name (i := 1) sc__law_copy.nd rfl (Or.inl rfl)) (pgs_cons (pg_name (i := 2) sc__law_copy.nd rfl (Or.inl rfl)) pgs_nil)))) (fun _ _ _ _ _ => pts_nil) (fun _ _ _ _ _ => (pe_tup (pa_cons (pv 1) (pa_cons (pv 2) pa_nil))))) (pa_cons (pe_lc (own := [("_law_word_here", 1), ("_law_a", 3), ("_law_b", 4)]) (by rfl) sc__law_copy.nd (kpi_list (K := K) (pe_ix (kix_tup (K := K)) (pv 0) pe_int (fun _ _ => rfl))) (blkOk_by (N := ["_law_rows", "_law_word_here", "_law_number", "_law_a", "_law_b"]) (sc := defScope s__law_copy) (by decide +kernel)) (fun _ _ _ _ _ => (kpg_tup (K := K) (n := 3) rfl (pgs_cons (pg_name (i := 1) sc__law_copy.nd rfl (Or.inl rfl)) (pgs_cons (pg_name (i := 3) sc__law_copy.nd rfl (Or.inl rfl)) (pgs_cons (pg_name (i := 4) sc__law_copy.nd rfl (Or.inl rfl)) pgs_nil))))) (fun _ _ _ _ _ => pts_nil) (fun _ _ _ _ _ => (pe_tup (pa_cons (pv 1) (pa_cons (pe_callTy (kcall_list (K := K)) (by rfl) B.list' (by decide +kernel) (pa_cons (pv 3) pa_nil)) (pa_cons (pe_callTy (kcall_list (K := K)) (by rfl) B.list' (by decide +kernel) (pa_cons (pv 4) pa_nil)) pa_nil)))))) pa_nil))))), fun fr Qv hret => ?_⟩)
  replace h : m__law_copy p_law_rows Q X := h
  unfold m__law_copy at h
  refine kn_ret (we_tup (wa_cons (we_lcM0 (r := (z2 yS zI)) (s := (z2 yS zI)) (wi_yL (we_op (we_var rfl (we_cI (ops_ix20 (⟨_, _, _, rfl, fun e2 => ⟨_, fun x1 => (x1.1, x1.2), _, rfl, rfl, e2, fun x1 => tg2 (by decide), fun x1 c => we_tup (wa_cons (we_var rfl (wa_cons (we_var rfl (wa_nil (⟨Nat.le_of_ble_eq_true rfl, iz (z2 yS zI) (x1.1, x1.2), tr2, ⟨rfl, rfl⟩⟩)))))), wa_cons (we_lcM0 (r := (z3 yS (yL yS) (yL yS))) (s := (z3 yS (yL yS) (yL yS))) (wi_yL (we_op (we_var rfl (we_cI (ops_ix21 (⟨_, _, _, rfl, fun e4 => ⟨_, fun x3 => (x3.1, x3.2.1, x3.2.2), _, rfl, rfl, e4, fun x3 => tg3 (by decide) (by decide) (by decide), fun x3 c => we_tup (wa_cons (we_var rfl (wa_cons (we_cb (wa_cons (we_var rfl (wa_nil (cy_list sy_L (wa_cons (we_cb (wa_cons (we_var rfl (wa_nil (cy_list sy_L (wa_nil (⟨Nat.le_of_ble_eq_true rfl, iz (z3 yS (yL yS) (yL yS)) (x3.1, x3.2.1, x3.2.2), tr3, ⟨rfl, rfl⟩⟩)))))))))))))))), wa_nil (⟨Nat.le_of_ble_eq_true rfl, iz (z2 (yL (z2 yS zI)) (yL (z3 yS (yL yS) (yL yS)))) (((p_law_rows.1).map fun x1 => (x1.1, x1.2)), ((p_law_rows.2).map fun x3 => (x3.1, x3.2.1, x3.2.2))), tr2, ?_⟩)⟩⟩)))))))⟩⟩)))))))))
  exact hret _ h _
abbrev s__law_plan : Stmt := topS 45
theorem sc__law_plan : FnScope ["_law_rows", "_law_places", "_law_steps"] ["_law_rows"] (defScope s__law_plan) := ⟨rfl, rfl, rfl, by decide +kernel, rfl, by decide +kernel, by decide +kernel⟩
def m__law_plan (p_law_rows : ((List (Str × Int)) × (List (Str × (List Str) × (List Str))))) : DM PlanD := fun Q X =>
  m__law_copy p_law_rows (fun v1 =>
  mk_Plan v1.1 v1.2 (fun v2 =>
  Q v2) noX) noX
theorem ok__law_plan {k : Nat} {cs : EK → Addr} {C : Addr} (B : Bl mg) (D__law_copy : Def P w K mg base CX0 (k + 1) "_law_copy" ["_law_rows"] (spA (preW (erW cs) (fun x : ((List (Str × Int)) × (List (Str × (List Str) × (List Str)))) => [iz (z2 (yL (z2 yS zI)) (yL (z3 yS (yL yS) (yL yS)))) x]) (z2 (yL (z2 yS zI)) (yL (z3 yS (yL yS) (yL yS)))) (fun x => m__law_copy x)))) (m_Plan : mg "Plan" = some (.ref C)) (DI_Plan : DefI P w K mg base (L2.CX P w) k C ["self", "places", "steps"] (spI C (preW (erW cs) (fun x : List (Str × Int) × List SRow => [iz yPR x.1, iz ySR x.2]) (zPlan C) (fun x => mk_Plan x.1 x.2))))
    (F : Src K mg "_law_plan" s__law_plan ["_law_rows"]) : Def P w K mg base CX0 (k + 2) "_law_plan" ["_law_rows"] (spA (preW (erW cs) (fun x : ((List (Str × Int)) × (List (Str × (List Str) × (List Str)))) => [iz (z2 (yL (z2 yS zI)) (yL (z3 yS (yL yS) (yL yS)))) x]) (zPlan C) (fun x => m__law_plan x))) := by
  refine F.okW sc__law_plan (fun _ => rfl) (fun f cdv A outer s H E p_law_rows Q X hr h => ⟨_, (pss_cons (ps_asg (pe_def D__law_copy hr pass0 (pa_cons (pv 0) pa_nil)) (kpg_tup (K := K) (n := 2) rfl (pgs_cons (pg_name (i := 1) sc__law_plan.nd rfl (Or.inl rfl)) (pgs_cons (pg_name (i := 2) sc__law_plan.nd rfl (Or.inl rfl)) pgs_nil))))
 (pss_one (ps_ret (pe_mkD DI_Plan m_Plan hr (fun σ => Passes.at passL σ) (pa_cons (pv 1) (pa_cons (pv 2) pa_nil)))))), fun fr Qv hret => ?_⟩)
  replace h : m__law_plan p_law_rows Q X := h
  unfold m__law_plan at h
  refine kn_seq (kn_asgT (we_callE (wa_cons (we_var rfl (wa_nil ?_)))))
  refine sps_W0 p_law_rows h (fun v1 h => ?_)
  refine ⟨_, _, tg2 (by decide), ?_⟩
  try dsimp only
  refine kn_ret (we_mkP (wa_cons (we_var rfl (wa_cons (we_var rfl (wa_nil ?_))))))
  refine mkW0 (v1.1, v1.2) h (fun v2 h => ?_)
  exact hret _ h _
abbrev s__law_ordered : Stmt := topS 46
theorem sc__law_ordered : FnScope ["_law_rows", "_law_words_here", "_law_steps", "_law_name", "_law_taken", "_law_given", "_law_row", "_law_word_here"] ["_law_rows"] (defScope s__law_ordered) := ⟨rfl, rfl, rfl, by decide +kernel, rfl, by decide +kernel, by decide +kernel⟩
def m__law_ordered (p_law_rows : ((List (Str × Int)) × (List (Str × (List Str) × (List Str))))) : DM (List (Str × (List Str) × (List Str))) := fun Q X =>
  ∀ words3, words3 = ((p_law_rows.1).map fun x1 => x1.1) →
  forD p_law_rows.2 ([]) (fun x6 s5 nx bk =>
  (s5).length < big ∧
  nx (s5 ++ [(x6.1, ((words3).filter fun x8 => (decide (x8 ∈ x6.2.1))).map (fun x8 => x8), ((words3).filter fun x10 => (decide (x10 ∈ x6.2.2))).map (fun x10 => x10))])) (fun s5 =>
  Q s5)
theorem ok__law_ordered {k : Nat} {cs : EK → Addr} (B : Bl mg) 
    (F : Src K mg "_law_ordered" s__law_ordered ["_law_rows"]) : Def P w K mg base CX0 (k + 1) "_law_ordered" ["_law_rows"] (spA (preW (erW cs) (fun x : ((List (Str × Int)) × (List (Str × (List Str) × (List Str)))) => [iz (z2 (yL (z2 yS zI)) (yL (z3 yS (yL yS) (yL yS)))) x]) (yL (z3 yS (yL yS) (yL yS))) (fun x => m__law_ordered x))) := by
  refine F.okW sc__law_ordered (fun _ => rfl) (fun f cdv A outer s H E p_law_rows Q X hr h => ⟨_, (pss_cons (ps_setLc (i := 1) (own := [("_law_row", 6)]) (g := gName 6) (by rfl) sc__law_ordered.nd rfl rfl (sw_true rfl rfl rfl (by decide +kernel)) (kpi_list (K := K) (pe_ix (kix_tup (K := K)) (pv 0) pe_int (fun _ _ => rfl))) (blkOk_by (N := ["_law_rows", "_law_words_here", "_law_steps", "_law_name", "_law_taken", "_law_given", "_law_row", "_law_word_here"]) (sc := defScope s__law_ordered) (by decide +kernel)) (fun _ _ _ _ _ => (pg_name (i := 6) sc__law_ordered.nd rfl (Or.inl rfl))) (fun _ _ _ _ _ => pts_nil) (fun _ _ _ _ _ => (pe_ix (kix_tup (K := K)) (pv 6) pe_int (fun _ _ => rfl))))
 (pss_cons (ps_asg (pe_lst pa_nil) (pg_name (i := 2) sc__law_ordered.nd rfl (Or.inl rfl)))
 (pss_cons (ps_for PassesOwn.never rfl (kpi_list (K := K) (pe_ix (kix_tup (K := K)) (pv 0) pe_int (fun _ _ => rfl))) (kpg_tup (K := K) (n := 3) rfl (pgs_cons (pg_name (i := 3) sc__law_ordered.nd rfl (Or.inl rfl)) (pgs_cons (pg_name (i := 4) sc__law_ordered.nd rfl (Or.inr rfl)) (pgs_cons (pg_name (i := 5) sc__law_ordered.nd rfl (Or.inr rfl)) pgs_nil)))) (pss_one (ps_expr (pe_bm PySem.F.plainAttrs_list PySem.F.slot_list_append PySem.F.type_list_append mt_append (pv 2) (pa_cons (pe_tup (pa_cons (pv 3) (pa_cons (pe_lc (own := [("_law_word_here", 7)]) (g := gName 7) (by rfl) sc__law_ordered.nd (kpi_list (K := K) (pv 1)) (blkOk_by (N := ["_law_rows", "_law_words_here", "_law_steps", "_law_name", "_law_taken", "_law_given", "_law_row", "_law_word_here"]) (sc := defScope s__law_ordered) (by decide +kernel)) (fun _ _ _ _ _ => (pg_name (i := 7) sc__law_ordered.nd rfl (Or.inl rfl))) (fun _ _ _ _ _ => pts_one (pt_cmpR (kop_in (K := K)) (pv 7) (pv 4) rfl)) (fun _ _ _ _ _ => (pv 7))) (pa_cons (pe_lc (own := [("_law_word_here", 7)]) (g := gName 7) (by rfl) sc__law_ordered.nd (kpi_list (K := K) (pv 1)) (blkOk_by (N := ["_law_rows", "_law_words_here", "_law_steps", "_law_name", "_law_taken", "_law_given", "_law_row", "_law_word_here"]) (sc := defScope s__law_ordered) (by decide +kernel)) (fun _ _ _ _ _ => (pg_name (i := 7) sc__law_ordered.nd rfl (Or.inl rfl))) (fun _ _ _ _ _ => pts_one (pt_cmpR (kop_in (K := K)) (pv 7) (pv 5) rfl)) (fun _ _ _ _ _ => (pv 7))) pa_nil)))) pa_nil)))))
 (pss_one (ps_ret (pv 2)))))), fun fr Qv hret => ?_⟩)
  replace h : m__law_ordered p_law_rows Q X := h
  unfold m__law_ordered at h
  refine kn_seq (kn_asgL (i := 1) (r := (yL yS)) (we_lcM0 (r := (z2 yS zI)) (s := yS) (wi_yL (we_op (we_var rfl (we_cI (ops_ix20 (⟨_, _, _, rfl, fun e2 => ⟨_, fun x1 => x1.1, _, rfl, rfl, e2, fun x1 => tg_name, fun x1 c => we_op (we_var rfl (we_cI (ops_ix20 (⟨rfl, rfl⟩)))), ⟨_, rfl, fun words3 ewords3 => ?_⟩⟩⟩))))))))
  have h := h words3 ewords3
  refine kn_nrm (Γ' := [some (iz (z2 (yL (z2 yS zI)) (yL (z3 yS (yL yS) (yL yS)))) p_law_rows), some (iz (yL yS) words3), none, none, none, none, none, none]) rfl ?_
  try dsimp only
  refine kn_seq (kn_asg (i := 2) (we_ownY (z3 yS (yL yS) (yL yS)) (wa_nil (⟨[], rfl, Nat.le_of_ble_eq_true rfl, fun a4 => ?_⟩))))
  refine kn_nrm (Γ' := [some (iz (z2 (yL (z2 yS zI)) (yL (z3 yS (yL yS) (yL yS)))) p_law_rows), some (iz (yL yS) words3), some (zAt a4), none, none, none, none, none]) rfl ?_
  try dsimp only
  refine kn_seq (kn_forW (r := (z3 yS (yL yS) (yL yS))) (S := (List (Str × (List Str) × (List Str)))) (fun s5 => [some (iz (z2 (yL (z2 yS zI)) (yL (z3 yS (yL yS) (yL yS)))) p_law_rows), some (iz (yL yS) words3), some (zAt a4), none, none, none, none, none]) (fun s5 => [cY a4 (z3 yS (yL yS) (yL yS)) s5]) ([]) (wi_yL (we_op (we_var rfl (we_cI (ops_ix21 (⟨_, _, _, rfl, fun e7 => ⟨_, _, _, _, _, rfl, rfl, (by and_intros), fun _ _ => tg3 (by decide) (by decide) (by decide), h, fun fr' le x6 s5 nx M hnx hbk h => ?_, fun s5 h => ?_⟩⟩)))))))
  · have hret := hret.fine le
    refine kn_appY (i := 2) (j := 0) rfl rfl (we_tup (wa_cons (we_var rfl (wa_cons (we_lcP (r := yS) (s := yS) (wi_yL (we_var rfl (⟨_, _, _, rfl, fun e9 => ⟨_, fun x8 => (decide (x8 ∈ x6.2.1)), fun x8 => x8, _, rfl, rfl, e9, fun x8 => tg_name, fun x8 c => wt_test (we_op (we_var rfl (we_var rfl (oy_inS sy_L (⟨_, rfl, ⟨rfl, rfl⟩⟩))))), fun x8 c => we_var rfl (⟨rfl, rfl⟩), wa_cons (we_lcP (r := yS) (s := yS) (wi_yL (we_var rfl (⟨_, _, _, rfl, fun e11 => ⟨_, fun x10 => (decide (x10 ∈ x6.2.2)), fun x10 => x10, _, rfl, rfl, e11, fun x10 => tg_name, fun x10 c => wt_test (we_op (we_var rfl (we_var rfl (oy_inS sy_L (⟨_, rfl, ⟨rfl, rfl⟩⟩))))), fun x10 c => we_var rfl (⟨rfl, rfl⟩), wa_nil (⟨Nat.le_of_ble_eq_true rfl, iz (z3 yS (yL yS) (yL yS)) (x6.1, ((words3).filter fun x8 => (decide (x8 ∈ x6.2.1))).map (fun x8 => x8), ((words3).filter fun x10 => (decide (x10 ∈ x6.2.2))).map (fun x10 => x10)), tr3, ?_⟩)⟩⟩))))⟩⟩))))))))
    obtain ⟨g12, h⟩ := h
    refine ⟨_, rfl, rfl, g12, ?_⟩
    exact hnx (s5 ++ [(x6.1, ((words3).filter fun x8 => (decide (x8 ∈ x6.2.1))).map (fun x8 => x8), ((words3).filter fun x10 => (decide (x10 ∈ x6.2.2))).map (fun x10 => x10))]) _ _ h (by and_intros) rfl
  try dsimp only
  refine kn_ret (we_var rfl ?_)
  exact rt_frzY (j := 0) rfl (hret _ h _)
abbrev s__law_is_plan : Stmt := topS 47
theorem sc__law_is_plan : FnScope ["_law_plan_here", "_law_rows", "_law_row"] ["_law_plan_here", "_law_rows"] (defScope s__law_is_plan) := ⟨rfl, rfl, rfl, by decide +kernel, rfl, by decide +kernel, by decide +kernel⟩
def m__law_is_plan (p_law_plan_here : PlanD) (p_law_rows : ((List (Str × Int)) × (List (Str × (List Str) × (List Str))))) : DM Bool := fun Q X =>
  ifD ((!decide (p_law_plan_here.places = ((p_law_rows.1).map fun x5 => x5.1))) || (!decide (p_law_plan_here.names = ((p_law_rows.2).map fun x3 => x3.1)))) (
  Q false) (
  ifD (!decide (p_law_plan_here.begin = ((p_law_rows.1).map fun x7 => x7.2))) (
  Q false) (
  m_Plan_place_rows p_law_plan_here (fun v9 =>
  andD (decide (v9 = p_law_rows.1)) (fun k11 => m_Plan_step_rows p_law_plan_here (fun v12 =>
  m__law_ordered p_law_rows (fun v13 =>
  k11 (decide (v12 = v13))) noX) noX) (fun c10 =>
  Q c10)) noX))
theorem ok__law_is_plan {k : Nat} {cs : EK → Addr} {C : Addr} (B : Bl mg) (T_Plan : PlanC K mg C) (D__law_ordered : Def P w K mg base CX0 k "_law_ordered" ["_law_rows"] (spA (preW (erW cs) (fun x : ((List (Str × Int)) × (List (Str × (List Str) × (List Str)))) => [iz (z2 (yL (z2 yS zI)) (yL (z3 yS (yL yS) (yL yS)))) x]) (yL (z3 yS (yL yS) (yL yS))) (fun x => m__law_ordered x)))) (DM_Plan_place_rows : DefM P w K mg base CX0 k C "place_rows" ["self"] (spA (preW (erW cs) (fun x : PlanD => [iz (zPlan C) x]) (yL (z2 yS zI)) (fun x => m_Plan_place_rows x)))) (DM_Plan_step_rows : DefM P w K mg base CX0 k C "step_rows" ["self"] (spA (preW (erW cs) (fun x : PlanD => [iz (zPlan C) x]) (yL (z3 yS (yL yS) (yL yS))) (fun x => m_Plan_step_rows x))))
    (F : Src K mg "_law_is_plan" s__law_is_plan ["_law_plan_here", "_law_rows"]) : Def P w K mg base CX0 (k + 1) "_law_is_plan" ["_law_plan_here", "_law_rows"] (spA (preW (erW cs) (fun x : PlanD × ((List (Str × Int)) × (List (Str × (List Str) × (List Str)))) => [iz (zPlan C) x.1, iz (z2 (yL (z2 yS zI)) (yL (z3 yS (yL yS) (yL yS)))) x.2]) zB (fun x => m__law_is_plan x.1 x.2))) := by
  refine F.okW sc__law_is_plan (fun _ => rfl) (fun f cdv A outer s H E x Q X hr h => ⟨_, (pss_cons (ps_if (PW.pt (pw_or (pt_cmpR (kop_neD (K := K) hr.units) (kpe_fld (K := K) (pv 0)) (pe_callTy (kcall_tuple (K := K)) (by rfl) B.tuple' (by decide +kernel) (pa_cons (pe_lc (own := [("_law_row", 2)]) (g := gName 2) (by rfl) sc__law_is_plan.nd (kpi_list (K := K) (pe_ix (kix_tup (K := K)) (pv 1) pe_int (fun _ _ => rfl))) (blkOk_by (N := ["_law_plan_here", "_law_rows", "_law_row"]) (sc := defScope s__law_is_plan) (by decide +kernel)) (fun _ _ _ _ _ => (pg_name (i := 2) sc__law_is_plan.nd rfl (Or.inl rfl))) (fun _ _ _ _ _ => pts_nil) (fun _ _ _ _ _ => (pe_ix (kix_tup (K := K)) (pv 2) pe_int (fun _ _ => rfl)))) pa_nil)) (nomark _)) (pw_or1 (pt_cmpR (kop_neD (K := K) hr.units) (kpe_fld (K := K) (pv 0)) (pe_callTy (kcall_tuple (K := K)) (by rfl) B.tuple' (by decide +kernel) (pa_cons (pe_lc (own := [("_law_row", 2)]) (g := gName 2) (by rfl) sc__law_is_plan.nd (kpi_list (K := K) (pe_ix (kix_tup (K := K)) (pv 1) pe_int (fun _ _ => rfl))) (blkOk_by (N := ["_law_plan_here", "_law_rows", "_law_row"]) (sc := defScope s__law_is_plan) (by decide +kernel)) (fun _ _ _ _ _ => (pg_name (i := 2) sc__law_is_plan.nd rfl (Or.inl rfl))) (fun _ _ _ _ _ => pts_nil) (fun _ _ _ _ _ => (pe_ix (kix_tup (K := K)) (pv 2) pe_int (fun _ _ => rfl)))) pa_nil)) (nomark _))))) (pss_one (ps_ret pe_bl)) pss_nil)
 (pss_cons (ps_if (pt_cmpR (kop_neD (K := K) hr.units) (kpe_fld (K := K) (pv 0)) (pe_callTy (kcall_tuple (K := K)) (by rfl) B.tuple' (by decide +kernel) (pa_cons (pe_lc (own := [("_law_row", 2)]) (g := gName 2) (by rfl) sc__law_is_plan.nd (kpi_list (K := K) (pe_ix (kix_tup (K := K)) (pv 1) pe_int (fun _ _ => rfl))) (blkOk_by (N := ["_law_plan_here", "_law_rows", "_law_row"]) (sc := defScope s__law_is_plan) (by decide +kernel)) (fun _ _ _ _ _ => (pg_name (i := 2) sc__law_is_plan.nd rfl (Or.inl rfl))) (fun _ _ _ _ _ => pts_nil) (fun _ _ _ _ _ => (pe_ix (kix_tup (K := K)) (pv 2) pe_int (fun _ _ => rfl)))) pa_nil)) (nomark _)) (pss_one (ps_ret pe_bl)) pss_nil)
 (pss_one (ps_ret (pe_and (pe_cmpR (kop_eqD (K := K) hr.units) (pe_metD0 DM_Plan_place_rows T_Plan.cl hr passAt0 (pv 0)) (pe_ix (kix_tup (K := K)) (pv 1) pe_int (fun _ _ => rfl)) (nomark _)) (pe_one (pe_cmpR (kop_eqD (K := K) hr.units) (pe_metD0 DM_Plan_step_rows T_Plan.cl hr passAt0 (pv 0)) (pe_def D__law_ordered hr pass0 (pa_cons (pv 1) pa_nil)) (nomark _)))))))), fun fr Qv hret => ?_⟩)
  obtain ⟨p_law_plan_here, p_law_rows⟩ := x
  replace h : m__law_is_plan p_law_plan_here p_law_rows Q X := h
  unfold m__law_is_plan at h
  refine kn_seq (kn_if (wt_orP (wt_test (we_op (we_fld (we_var rfl (⟨_, fy_places T_Plan, we_cb (wa_cons (we_lcM0 (r := (z2 yS zI)) (s := yS) (wi_yL (we_op (we_var rfl (we_cI (ops_ix20 (⟨_, _, _, rfl, fun e6 => ⟨_, fun x5 => x5.1, _, rfl, rfl, e6, fun x5 => tg_name, fun x5 c => we_op (we_var rfl (we_cI (ops_ix20 (⟨rfl, rfl⟩)))), wa_nil (cy_tupleL (ops_neD (r := (yT yS)) (by decide) (⟨_, rfl, ⟨_, fun _ => wt_test (we_op (we_fld (we_var rfl (⟨_, fy_steps T_Plan, we_cb (wa_cons (we_lcM0 (r := (z3 yS (yL yS) (yL yS))) (s := yS) (wi_yL (we_op (we_var rfl (we_cI (ops_ix21 (⟨_, _, _, rfl, fun e4 => ⟨_, fun x3 => x3.1, _, rfl, rfl, e4, fun x3 => tg_name, fun x3 c => we_op (we_var rfl (we_cI (ops_ix30 (⟨rfl, rfl⟩)))), wa_nil (cy_tupleL (ops_neD (r := (yT yS)) (by decide) (⟨_, rfl, ⟨rfl, rfl⟩⟩)))⟩⟩))))))))⟩)))), ⟨fun hc => ?_, fun hc => ?_⟩⟩⟩)))⟩⟩))))))))⟩)))))))
  · have h := h.1 hc
    refine kn_ret (we_cB ?_)
    exact hret _ h _
  · have h := h.2 hc
    refine kn_next ?_
    try dsimp only
    refine kn_seq (kn_if (wt_test (we_op (we_fld (we_var rfl (⟨_, fy_begin T_Plan, we_cb (wa_cons (we_lcM0 (r := (z2 yS zI)) (s := zI) (wi_yL (we_op (we_var rfl (we_cI (ops_ix20 (⟨_, _, _, rfl, fun e8 => ⟨_, fun x7 => x7.2, _, rfl, rfl, e8, fun x7 => tg_name, fun x7 c => we_op (we_var rfl (we_cI (ops_ix21 (⟨rfl, rfl⟩)))), wa_nil (cy_tupleL (ops_neD (r := (yT zI)) (by decide) (⟨_, rfl, ⟨fun hc => ?_, fun hc => ?_⟩⟩)))⟩⟩))))))))⟩))))))
    · have h := h.1 hc
      refine kn_ret (we_cB ?_)
      exact hret _ h _
    · have h := h.2 hc
      refine kn_next ?_
      try dsimp only
      refine kn_ret (we_andC (we_op (we_met (we_var rfl (⟨ins_plan rfl, wa_nil ?_⟩)))))
      refine sps_W0 p_law_plan_here h (fun v9 h => ?_)
      refine we_op (we_var rfl (we_cI (ops_ix20 (ops_eqD (r := (yL (z2 yS zI))) (by decide) ?_))))
      refine andKv h (fun h => ?_) (fun c10 h => ?_)
      · refine we_op (we_met (we_var rfl (⟨ins_plan rfl, wa_nil ?_⟩)))
        refine sps_W0 p_law_plan_here h (fun v12 h => ?_)
        refine we_callE (wa_cons (we_var rfl (wa_nil ?_)))
        refine sps_W0 p_law_rows h (fun v13 h => ?_)
        refine ops_eqD (r := (yL (z3 yS (yL yS) (yL yS)))) (by decide) ?_
        exact ⟨rfl, _, rfl, h⟩
      exact hret _ h _
abbrev s__law_good : Stmt := topS 48
theorem sc__law_good : FnScope ["_law_word_here", "_law_sign"] ["_law_word_here"] (defScope s__law_good) := ⟨rfl, rfl, rfl, by decide +kernel, rfl, by decide +kernel, by decide +kernel⟩
def m__law_good (p_law_word_here : Str) : DM Bool := fun Q X =>
  orD (!(decide ((1 : Int) ≤ ((p_law_word_here).length : Int)) && decide (((p_law_word_here).length : Int) ≤ (12 : Int)))) (fun k4 => ∃ v5, atI (p_law_word_here).cps.toList (0 : Int) = some v5 ∧
  (⟨#[v5]⟩ : Str).length = 1 ∧
  k4 (!decide ((⟨#[v5]⟩ : Str) ∈ sgnL ("abcdefghijklmnopqrstuvwxyz" : Str)))) (fun c3 =>
  ifD c3 (
  Q false) (
  mapD (sgnL p_law_word_here) [] (fun x7 k8 =>
  x7.length = 1 ∧
  k8 (decide (x7 ∈ sgnL ("abcdefghijklmnopqrstuvwxyz0123456789" : Str)))) (fun ys9 =>
  Q ((ys9).all id))))
theorem ok__law_good {k : Nat} {cs : EK → Addr} (B : Bl mg) 
    (F : Src K mg "_law_good" s__law_good ["_law_word_here"]) : Def P w K mg base CX0 (k + 1) "_law_good" ["_law_word_here"] (spA (preW (erW cs) (fun x : Str => [iz yS x]) zB (fun x => m__law_good x))) := by
  refine F.okW sc__law_good (fun _ => rfl) (fun f cdv A outer s H E p_law_word_here Q X hr h => ⟨_, (pss_cons (ps_if (PW.pt (pw_or (pt_not (pt_chain op_le op_le pe_int (pe_callB call_len_str (by rfl) B.len PySem.boot_len (pa_cons (pv 0) pa_nil)) pe_int)) (pw_or1 (pt_cmpR op_notIn_sign (pe_ix ix_str (pv 0) pe_int (fun _ _ => rfl)) pe_str rfl)))) (pss_one (ps_ret pe_bl)) pss_nil)
 (pss_one (ps_ret (pe_callB (kcr_all (K := K) rfl) (by rfl) B.all' (by decide +kernel) (pa_cons (pe_lc (own := [("_law_sign", 1)]) (g := gName 1) (by rfl) sc__law_good.nd (pi_str (pv 0)) (blkOk_by (N := ["_law_word_here", "_law_sign"]) (sc := defScope s__law_good) (by decide +kernel)) (fun _ _ _ _ _ => (pg_name (i := 1) sc__law_good.nd rfl (Or.inl rfl))) (fun _ _ _ _ _ => pts_nil) (fun _ _ _ _ _ => (pe_cmpR op_in_sign (pv 1) pe_str rfl))) pa_nil))))), fun fr Qv hret => ?_⟩)
  replace h : m__law_good p_law_word_here Q X := h
  unfold m__law_good at h
  refine kn_seq (kn_if (wt_orC (wt_not (wt_test (we_chainI (we_cI (we_cb (wa_cons (we_var rfl (wa_nil (cy_lenS (fun e2 => (⟨_, _, _, rfl, rfl, we_cI (⟨rfl, rfl⟩), ⟨_, rfl, ?_⟩⟩)))))))))))))
  refine orK h (fun h => ?_) (fun c3 h => ?_)
  · refine wt_test (we_op (we_op (we_var rfl (we_cI ?_))))
    obtain ⟨v5, ev5, h⟩ := h
    refine oy_ixS ev5 (we_cSy (z := "abcdefghijklmnopqrstuvwxyz") (asc_of (by decide)) (by decide) ?_)
    obtain ⟨g6, h⟩ := h
    refine oy_ninG g6 (⟨_, rfl, ?_⟩)
    exact ⟨rfl, h⟩
  refine ⟨fun hc => ?_, fun hc => ?_⟩
  · have h := h.1 hc
    refine kn_ret (we_cB ?_)
    exact hret _ h _
  · have h := h.2 hc
    refine kn_next ?_
    try dsimp only
    refine kn_ret (we_cb (wa_cons (we_lcM (r := yS) (s := zB) (wi_str (we_var rfl (⟨_, rfl, fun e10 => ⟨_, _, _, _, rfl, rfl, e10, fun _ => tg_name, h, fun x7 c k8 h => ?_, fun ys9 h eys9 => ?_⟩⟩))))))
    · refine we_op (we_var rfl (we_cSy (z := "abcdefghijklmnopqrstuvwxyz0123456789") (asc_of (by decide)) (by decide) ?_))
      obtain ⟨g12, h⟩ := h
      refine oy_inG g12 ?_
      exact ⟨rfl, _, rfl, h⟩
    refine wa_nil (cy_all ?_)
    exact hret _ h _
abbrev s__law_words_due : Stmt := topS 49
theorem sc__law_words_due : FnScope ["_law_words_here", "_law_k"] ["_law_words_here"] (defScope s__law_words_due) := ⟨rfl, rfl, rfl, by decide +kernel, rfl, by decide +kernel, by decide +kernel⟩
def m__law_words_due (p_law_words_here : (List Str)) : DM PyData := fun Q X =>
  forD (intsF 0 (((p_law_words_here).length : Int)).toNat) () (fun x2 s1 nx bk =>
  ∃ v4, atI p_law_words_here x2 = some v4 ∧
  m__law_good v4 (fun v5 =>
  ifD (!v5) (
  ∃ v6, atI p_law_words_here x2 = some v6 ∧
  Q (XDat.enc (r := (z2 yS yS)) (("BadWord" : Str), v6))) (
  ∃ v7, atI p_law_words_here x2 = some v7 ∧
  ifD (decide (v7 ∈ (cutX p_law_words_here none (some x2)))) (
  ∃ v8, atI p_law_words_here x2 = some v8 ∧
  Q (XDat.enc (r := (z2 yS yS)) (("DoubleName" : Str), v8))) (
  nx ()))) noX) (fun s1 =>
  Q (XDat.enc (r := (z1 yS)) ("ok" : Str)))
theorem ok__law_words_due {k : Nat} {cs : EK → Addr} (B : Bl mg) (D__law_good : Def P w K mg base CX0 k "_law_good" ["_law_word_here"] (spA (preW (erW cs) (fun x : Str => [iz yS x]) zB (fun x => m__law_good x))))
    (F : Src K mg "_law_words_due" s__law_words_due ["_law_words_here"]) : Def P w K mg base CX0 (k + 1) "_law_words_due" ["_law_words_here"] (spA (preW (erW cs) (fun x : (List Str) => [iz (yL yS) x]) yX (fun x => m__law_words_due x))) := by
  refine F.okW sc__law_words_due (fun _ => rfl) (fun f cdv A outer s H E p_law_words_here Q X hr h => ⟨_, (pss_cons (ps_for PassesOwn.never rfl (pi_range1 (by rfl) B.range (pa_cons (pe_callB (kcall_len (K := K)) (by rfl) B.len PySem.boot_len (pa_cons (pv 0) pa_nil)) pa_nil)) (pg_name (i := 1) sc__law_words_due.nd rfl (Or.inl rfl)) (pss_cons (ps_if (pt_not (pt_val (pe_def D__law_good hr pass0 (pa_cons (pe_ix (kix_list (K := K)) (pv 0) (pv 1) (fun _ _ => rfl)) pa_nil)))) (pss_one (ps_ret (pe_tup (pa_cons pe_str (pa_cons (pe_ix (kix_list (K := K)) (pv 0) (pv 1) (fun _ _ => rfl)) pa_nil))))) pss_nil)
 (pss_one (ps_if (pt_cmpR (kop_in (K := K)) (pe_ix (kix_list (K := K)) (pv 0) (pv 1) (fun _ _ => rfl)) (pe_slice (ksl_list (K := K)) (pv 0) po_none (po_some (pv 1))) rfl) (pss_one (ps_ret (pe_tup (pa_cons pe_str (pa_cons (pe_ix (kix_list (K := K)) (pv 0) (pv 1) (fun _ _ => rfl)) pa_nil))))) pss_nil))))
 (pss_one (ps_ret (pe_tup (pa_cons pe_str pa_nil))))), fun fr Qv hret => ?_⟩)
  replace h : m__law_words_due p_law_words_here Q X := h
  unfold m__law_words_due at h
  refine kn_seq (kn_forW (r := zI) (S := Unit) (fun s1 => [some (iz (yL yS) p_law_words_here), none]) (fun s1 => []) () (wi_range (wa_cons (we_cb (wa_cons (we_var rfl (wa_nil (cy_len sy_L (fun e3 => (wa_nil (⟨_, rfl, (by have hb : big = 100000 := rfl; omega), (by have hb : big = 100000 := rfl; omega), ⟨_, _, _, _, _, rfl, rfl, (by and_intros), fun _ _ => tg_name, h, fun fr' le x2 s1 nx M hnx hbk h => ?_, fun s1 h => ?_⟩⟩)))))))))))
  · have hret := hret.fine le
    refine kn_seq (kn_if (wt_not (wt_b (we_callE (wa_cons (we_op (we_var rfl (we_var rfl ?_))))))))
    obtain ⟨v4, ev4, h⟩ := h
    refine oy_ixL ev4 (wa_nil ?_)
    refine sps_W0 v4 h (fun v5 h => ?_)
    refine ⟨_, rfl, ⟨fun hc => ?_, fun hc => ?_⟩⟩
    · have h := h.1 hc
      refine kn_ret (We.conv (we_tup (wa_cons (we_cSy (z := "BadWord") (asc_of (by decide)) (by decide) (wa_cons (we_op (we_var rfl (we_var rfl ?_))))))))
      obtain ⟨v6, ev6, h⟩ := h
      refine oy_ixL ev6 (wa_nil (⟨Nat.le_of_ble_eq_true rfl, iz (z2 yS yS) (("BadWord" : Str), v6), tr2, ⟨_, (le_X (r := (z2 yS yS))), ?_⟩⟩))
      exact hret _ h _
    · have h := h.2 hc
      refine kn_next ?_
      try dsimp only
      refine kn_if (wt_test (we_op (we_op (we_var rfl (we_var rfl ?_)))))
      obtain ⟨v7, ev7, h⟩ := h
      refine oy_ixL ev7 (we_sl (we_var rfl (wo_none (wo_some (we_var rfl (⟨_, rfl, sy_slL (oy_inS sy_L (⟨_, rfl, ⟨fun hc => ?_, fun hc => ?_⟩⟩))⟩))))))
      · have h := h.1 hc
        refine kn_ret (We.conv (we_tup (wa_cons (we_cSy (z := "DoubleName") (asc_of (by decide)) (by decide) (wa_cons (we_op (we_var rfl (we_var rfl ?_))))))))
        obtain ⟨v8, ev8, h⟩ := h
        refine oy_ixL ev8 (wa_nil (⟨Nat.le_of_ble_eq_true rfl, iz (z2 yS yS) (("DoubleName" : Str), v8), tr2, ⟨_, (le_X (r := (z2 yS yS))), ?_⟩⟩))
        exact hret _ h _
      · have h := h.2 hc
        refine kn_next ?_
        exact hnx () _ _ h (by and_intros) rfl
  try dsimp only
  refine kn_ret (We.conv (we_tup (wa_cons (we_cSy (z := "ok") (asc_of (by decide)) (by decide) (wa_nil (⟨Nat.le_of_ble_eq_true rfl, iz (z1 yS) ("ok" : Str), tr1, ⟨_, (le_X (r := (z1 yS))), ?_⟩⟩))))))
  exact hret _ h _
abbrev s__law_built_due : Stmt := topS 50
theorem sc__law_built_due : FnScope ["_law_rows", "_law_due", "_law_row"] ["_law_rows"] (defScope s__law_built_due) := ⟨rfl, rfl, rfl, by decide +kernel, rfl, by decide +kernel, by decide +kernel⟩
def m__law_built_due (p_law_rows : ((List (Str × Int)) × (List (Str × (List Str) × (List Str))))) : DM PyData := fun Q X =>
  ifD (decide (((p_law_rows.1).length : Int) > (12 : Int))) (
  Q (XDat.enc (r := (z3 yS yS zI)) (("TooMany" : Str), ("places" : Str), (12 : Int)))) (
  ifD (decide (((p_law_rows.2).length : Int) > (16 : Int))) (
  Q (XDat.enc (r := (z3 yS yS zI)) (("TooMany" : Str), ("steps" : Str), (16 : Int)))) (
  m__law_words_due ((p_law_rows.1).map fun x3 => x3.1) (fun v5 =>
  ifD (!xeq v5 (XDat.enc (r := (z1 yS)) ("ok" : Str))) (
  Q v5) (
  m__law_words_due ((p_law_rows.2).map fun x6 => x6.1) (fun v8 =>
  Q v8) noX)) noX))
theorem ok__law_built_due {k : Nat} {cs : EK → Addr} (B : Bl mg) (D__law_words_due : Def P w K mg base CX0 k "_law_words_due" ["_law_words_here"] (spA (preW (erW cs) (fun x : (List Str) => [iz (yL yS) x]) yX (fun x => m__law_words_due x))))
    (F : Src K mg "_law_built_due" s__law_built_due ["_law_rows"]) : Def P w K mg base CX0 (k + 1) "_law_built_due" ["_law_rows"] (spA (preW (erW cs) (fun x : ((List (Str × Int)) × (List (Str × (List Str) × (List Str)))) => [iz (z2 (yL (z2 yS zI)) (yL (z3 yS (yL yS) (yL yS)))) x]) yX (fun x => m__law_built_due x))) := by
  refine F.okW sc__law_built_due (fun _ => rfl) (fun f cdv A outer s H E p_law_rows Q X hr h => ⟨_, (pss_cons (ps_if (pt_cmpR op_gt (pe_callB (kcall_len (K := K)) (by rfl) B.len PySem.boot_len (pa_cons (pe_ix (kix_tup (K := K)) (pv 0) pe_int (fun _ _ => rfl)) pa_nil)) pe_int (nomark _)) (pss_one (ps_ret (pe_tup (pa_cons pe_str (pa_cons pe_str (pa_cons pe_int pa_nil)))))) pss_nil)
 (pss_cons (ps_if (pt_cmpR op_gt (pe_callB (kcall_len (K := K)) (by rfl) B.len PySem.boot_len (pa_cons (pe_ix (kix_tup (K := K)) (pv 0) pe_int (fun _ _ => rfl)) pa_nil)) pe_int (nomark _)) (pss_one (ps_ret (pe_tup (pa_cons pe_str (pa_cons pe_str (pa_cons pe_int pa_nil)))))) pss_nil)
 (pss_cons (ps_asg (pe_def D__law_words_due hr pass0 (pa_cons (pe_lc (own := [("_law_row", 2)]) (g := gName 2) (by rfl) sc__law_built_due.nd (kpi_list (K := K) (pe_ix (kix_tup (K := K)) (pv 0) pe_int (fun _ _ => rfl))) (blkOk_by (N := ["_law_rows", "_law_due", "_law_row"]) (sc := defScope s__law_built_due) (by decide +kernel)) (fun _ _ _ _ _ => (pg_name (i := 2) sc__law_built_due.nd rfl (Or.inl rfl))) (fun _ _ _ _ _ => pts_nil) (fun _ _ _ _ _ => (pe_ix (kix_tup (K := K)) (pv 2) pe_int (fun _ _ => rfl)))) pa_nil)) (pg_name (i := 1) sc__law_built_due.nd rfl (Or.inl rfl)))
 (pss_cons (ps_if (pt_cmpR (kop_neD (K := K) hr.units) (pv 1) (pe_tup (pa_cons pe_str pa_nil)) (nomark _)) (pss_one (ps_ret (pv 1))) pss_nil)
 (pss_one (ps_ret (pe_def D__law_words_due hr pass0 (pa_cons (pe_lc (own := [("_law_row", 2)]) (g := gName 2) (by rfl) sc__law_built_due.nd (kpi_list (K := K) (pe_ix (kix_tup (K := K)) (pv 0) pe_int (fun _ _ => rfl))) (blkOk_by (N := ["_law_rows", "_law_due", "_law_row"]) (sc := defScope s__law_built_due) (by decide +kernel)) (fun _ _ _ _ _ => (pg_name (i := 2) sc__law_built_due.nd rfl (Or.inl rfl))) (fun _ _ _ _ _ => pts_nil) (fun _ _ _ _ _ => (pe_ix (kix_tup (K := K)) (pv 2) pe_int (fun _ _ => rfl)))) pa_nil)))))))), fun fr Qv hret => ?_⟩)
  replace h : m__law_built_due p_law_rows Q X := h
  unfold m__law_built_due at h
  refine kn_seq (kn_if (wt_test (we_op (we_cb (wa_cons (we_op (we_var rfl (we_cI (ops_ix20 (wa_nil (cy_len sy_L (fun e1 => (we_cI (ops_B0 (⟨_, rfl, ⟨fun hc => ?_, fun hc => ?_⟩⟩)))))))))))))))
  · have h := h.1 hc
    refine kn_ret (We.conv (we_tup (wa_cons (we_cSy (z := "TooMany") (asc_of (by decide)) (by decide) (wa_cons (we_cSy (z := "places") (asc_of (by decide)) (by decide) (wa_cons (we_cI (wa_nil (⟨Nat.le_of_ble_eq_true rfl, iz (z3 yS yS zI) (("TooMany" : Str), ("places" : Str), (12 : Int)), tr3, ⟨_, (le_X (r := (z3 yS yS zI))), ?_⟩⟩))))))))))
    exact hret _ h _
  · have h := h.2 hc
    refine kn_next ?_
    try dsimp only
    refine kn_seq (kn_if (wt_test (we_op (we_cb (wa_cons (we_op (we_var rfl (we_cI (ops_ix21 (wa_nil (cy_len sy_L (fun e2 => (we_cI (ops_B0 (⟨_, rfl, ⟨fun hc => ?_, fun hc => ?_⟩⟩)))))))))))))))
    · have h := h.1 hc
      refine kn_ret (We.conv (we_tup (wa_cons (we_cSy (z := "TooMany") (asc_of (by decide)) (by decide) (wa_cons (we_cSy (z := "steps") (asc_of (by decide)) (by decide) (wa_cons (we_cI (wa_nil (⟨Nat.le_of_ble_eq_true rfl, iz (z3 yS yS zI) (("TooMany" : Str), ("steps" : Str), (16 : Int)), tr3, ⟨_, (le_X (r := (z3 yS yS zI))), ?_⟩⟩))))))))))
      exact hret _ h _
    · have h := h.2 hc
      refine kn_next ?_
      try dsimp only
      refine kn_seq (kn_asg (i := 1) (we_callE (wa_cons (we_lcM0 (r := (z2 yS zI)) (s := yS) (wi_yL (we_op (we_var rfl (we_cI (ops_ix20 (⟨_, _, _, rfl, fun e4 => ⟨_, fun x3 => x3.1, _, rfl, rfl, e4, fun x3 => tg_name, fun x3 c => we_op (we_var rfl (we_cI (ops_ix20 (⟨rfl, rfl⟩)))), wa_nil ?_⟩⟩))))))))))
      refine sps_W0 ((p_law_rows.1).map fun x3 => x3.1) h (fun v5 h => ?_)
      try dsimp only
      refine kn_seq (kn_if (wt_test (we_op (we_var rfl (We.conv (we_tup (wa_cons (we_cSy (z := "ok") (asc_of (by decide)) (by decide) (wa_nil (⟨Nat.le_of_ble_eq_true rfl, iz (z1 yS) ("ok" : Str), tr1, ⟨_, (le_X (r := (z1 yS))), oy_neX (r := yX) (by decide) (⟨_, rfl, ⟨fun hc => ?_, fun hc => ?_⟩⟩)⟩⟩))))))))))
      · have h := h.1 hc
        refine kn_ret (We.conv (we_var rfl (⟨_, Vp.Le.refl _, ?_⟩)))
        exact hret _ h _
      · have h := h.2 hc
        refine kn_next ?_
        try dsimp only
        refine kn_ret (We.conv (we_callE (wa_cons (we_lcM0 (r := (z3 yS (yL yS) (yL yS))) (s := yS) (wi_yL (we_op (we_var rfl (we_cI (ops_ix21 (⟨_, _, _, rfl, fun e7 => ⟨_, fun x6 => x6.1, _, rfl, rfl, e7, fun x6 => tg_name, fun x6 c => we_op (we_var rfl (we_cI (ops_ix30 (⟨rfl, rfl⟩)))), wa_nil ?_⟩⟩))))))))))
        refine sps_W0 ((p_law_rows.2).map fun x6 => x6.1) h (fun v8 h => ?_)
        refine ⟨_, Vp.Le.refl _, ?_⟩
        exact hret _ h _
abbrev s__law_new : Stmt := topS 51
theorem sc__law_new : FnScope ["_law_box_here", "_law_used", "_law_kind"] ["_law_box_here", "_law_used"] (defScope s__law_new) := ⟨rfl, rfl, rfl, by decide +kernel, rfl, by decide +kernel, by decide +kernel⟩
def m__law_new (p_law_used : (List Str)) : DM Str := fun Q X =>
  m_draw (6 : Int) (fun v1 =>
  ifD (decide (v1 = (0 : Int))) (
  m_draw (7 : Int) (fun v2 =>
  ∃ v3, atI ([("" : Str), ("A" : Str), ("1a" : Str), ("a_b" : Str), ("a b" : Str), ("abcdefghijklm" : Str), ("aB" : Str)]) v2 = some v3 ∧
  Q v3) noX) (
  ifD (decide (v1 = (1 : Int))) (
  m_draw ((p_law_used).length : Int) (fun v5 =>
  ∃ v6, atI p_law_used v5 = some v6 ∧
  Q v6) noX) (
  m__law_fresh p_law_used (fun v7 =>
  Q v7) noX))) noX
theorem ok__law_new {k : Nat} {cs : EK → Addr} (B : Bl mg) (D__law_draw : Def P w K mg base CX0 k "_law_draw" ["_law_box_here", "_law_limit"] (spC (preKN 1 (preBW (fun x : Int => [iz zI x]) zI m_draw)))) (D__law_fresh : Def P w K mg base CX0 k "_law_fresh" ["_law_box_here", "_law_used"] (spC (preKN 1 (preBW (fun x : (List Str) => [iz (yL yS) x]) yS (fun x => m__law_fresh x)))))
    (F : Src K mg "_law_new" s__law_new ["_law_box_here", "_law_used"]) : Def P w K mg base CX0 (k + 1) "_law_new" ["_law_box_here", "_law_used"] (spC (preKN 2 (preBW (fun x : (List Str) => [iz (yL yS) x]) yS (fun x => m__law_new x)))) := by
  refine F.okKN sc__law_new (fun _ => rfl) (fun f cdv A outer s H E b l n p_law_used Q hN hr h => ⟨_, (pss_cons (ps_asg (pe_def D__law_draw hr pass0 (pa_cons (pv 0) (pa_cons pe_int pa_nil))) (pg_name (i := 2) sc__law_new.nd rfl (Or.inl rfl)))
 (pss_cons (ps_if (pt_cmpR op_eq (pv 2) pe_int (nomark _)) (pss_one (ps_ret (pe_ix (kix_list (K := K)) (pe_lst (pa_cons pe_str (pa_cons pe_str (pa_cons pe_str (pa_cons pe_str (pa_cons pe_str (pa_cons pe_str (pa_cons pe_str pa_nil)))))))) (pe_def D__law_draw hr pass0 (pa_cons (pv 0) (pa_cons pe_int pa_nil))) (fun _ _ => rfl)))) pss_nil)
 (pss_cons (ps_if (pt_cmpR op_eq (pv 2) pe_int (nomark _)) (pss_one (ps_ret (pe_ix (kix_list (K := K)) (pv 1) (pe_def D__law_draw hr pass0 (pa_cons (pv 0) (pa_cons (pe_callB (kcall_len (K := K)) (by rfl) B.len PySem.boot_len (pa_cons (pv 1) pa_nil)) pa_nil))) (fun _ _ => rfl)))) pss_nil)
 (pss_one (ps_ret (pe_def D__law_fresh hr pass0 (pa_cons (pv 0) (pa_cons (pv 1) pa_nil)))))))), fun fr Qv hret => ?_⟩)
  replace h : m__law_new p_law_used Q noX := h
  unfold m__law_new at h
  refine kn_seq (kn_asg (i := 2) (we_callE (wa_cons (we_var rfl (wa_cons (we_cI (wa_nil ?_)))))))
  refine sps_KN (j := 0) rfl (by have hb : big = 100000 := rfl; omega) (6 : Int) h (fun v1 h => ?_)
  try dsimp only [List.set]
  try dsimp only
  refine kn_seq (kn_if (wt_test (we_op (we_var rfl (we_cI (ops_eqI (⟨_, rfl, ⟨fun hc => ?_, fun hc => ?_⟩⟩)))))))
  · have h := h.1 hc
    refine kn_ret (we_op (we_lstY (r := yS) (wa_cons (we_cSy (z := "") (asc_of (by decide)) (by decide) (wa_cons (we_cSy (z := "A") (asc_of (by decide)) (by decide) (wa_cons (we_cSy (z := "1a") (asc_of (by decide)) (by decide) (wa_cons (we_cSy (z := "a_b") (asc_of (by decide)) (by decide) (wa_cons (we_cSy (z := "a b") (asc_of (by decide)) (by decide) (wa_cons (we_cSy (z := "abcdefghijklm") (asc_of (by decide)) (by decide) (wa_cons (we_cSy (z := "aB") (asc_of (by decide)) (by decide) (wa_nil (⟨[("" : Str), ("A" : Str), ("1a" : Str), ("a_b" : Str), ("a b" : Str), ("abcdefghijklm" : Str), ("aB" : Str)], rfl, Nat.le_of_ble_eq_true rfl, we_callE (wa_cons (we_var rfl (wa_cons (we_cI (wa_nil ?_)))))⟩))))))))))))))))))
    refine sps_KN (j := 0) rfl (by have hb : big = 100000 := rfl; omega) (7 : Int) h (fun v2 h => ?_)
    try dsimp only [List.set]
    obtain ⟨v3, ev3, h⟩ := h
    refine oy_ixL ev3 ?_
    exact hret _ h _ _ (by have hb : big = 100000 := rfl; omega) (List.mem_of_getElem? (i := 0) rfl)
  · have h := h.2 hc
    refine kn_next ?_
    try dsimp only
    refine kn_seq (kn_if (wt_test (we_op (we_var rfl (we_cI (ops_eqI (⟨_, rfl, ⟨fun hc => ?_, fun hc => ?_⟩⟩)))))))
    · have h := h.1 hc
      refine kn_ret (we_op (we_var rfl (we_callE (wa_cons (we_var rfl (wa_cons (we_cb (wa_cons (we_var rfl (wa_nil (cy_len sy_L (fun e4 => (wa_nil ?_)))))))))))))
      refine sps_KN (j := 0) rfl (by have hb : big = 100000 := rfl; omega) ((p_law_used).length : Int) h (fun v5 h => ?_)
      try dsimp only [List.set]
      obtain ⟨v6, ev6, h⟩ := h
      refine oy_ixL ev6 ?_
      exact hret _ h _ _ (by have hb : big = 100000 := rfl; omega) (List.mem_of_getElem? (i := 0) rfl)
    · have h := h.2 hc
      refine kn_next ?_
      try dsimp only
      refine kn_ret (we_callE (wa_cons (we_var rfl (wa_cons (we_var rfl (wa_nil ?_))))))
      refine sps_KN (j := 0) rfl (by have hb : big = 100000 := rfl; omega) p_law_used h (fun v7 h => ?_)
      try dsimp only [List.set]
      exact hret _ h _ _ (by have hb : big = 100000 := rfl; omega) (List.mem_of_getElem? (i := 0) rfl)
abbrev s__law_old : Stmt := topS 52
theorem sc__law_old : FnScope ["_law_box_here", "_law_used"] ["_law_box_here", "_law_used"] (defScope s__law_old) := ⟨rfl, rfl, rfl, by decide +kernel, rfl, by decide +kernel, by decide +kernel⟩
def m__law_old (p_law_used : (List Str)) : DM Str := fun Q X =>
  m_draw (6 : Int) (fun v1 =>
  ifD (decide (v1 = (0 : Int))) (
  m__law_fresh p_law_used (fun v2 =>
  Q v2) noX) (
  m_draw ((p_law_used).length : Int) (fun v4 =>
  ∃ v5, atI p_law_used v4 = some v5 ∧
  Q v5) noX)) noX
theorem ok__law_old {k : Nat} {cs : EK → Addr} (B : Bl mg) (D__law_draw : Def P w K mg base CX0 k "_law_draw" ["_law_box_here", "_law_limit"] (spC (preKN 1 (preBW (fun x : Int => [iz zI x]) zI m_draw)))) (D__law_fresh : Def P w K mg base CX0 k "_law_fresh" ["_law_box_here", "_law_used"] (spC (preKN 1 (preBW (fun x : (List Str) => [iz (yL yS) x]) yS (fun x => m__law_fresh x)))))
    (F : Src K mg "_law_old" s__law_old ["_law_box_here", "_law_used"]) : Def P w K mg base CX0 (k + 1) "_law_old" ["_law_box_here", "_law_used"] (spC (preKN 2 (preBW (fun x : (List Str) => [iz (yL yS) x]) yS (fun x => m__law_old x)))) := by
  refine F.okKN sc__law_old (fun _ => rfl) (fun f cdv A outer s H E b l n p_law_used Q hN hr h => ⟨_, (pss_cons (ps_if (pt_cmpR op_eq (pe_def D__law_draw hr pass0 (pa_cons (pv 0) (pa_cons pe_int pa_nil))) pe_int (nomark _)) (pss_one (ps_ret (pe_def D__law_fresh hr pass0 (pa_cons (pv 0) (pa_cons (pv 1) pa_nil))))) pss_nil)
 (pss_one (ps_ret (pe_ix (kix_list (K := K)) (pv 1) (pe_def D__law_draw hr pass0 (pa_cons (pv 0) (pa_cons (pe_callB (kcall_len (K := K)) (by rfl) B.len PySem.boot_len (pa_cons (pv 1) pa_nil)) pa_nil))) (fun _ _ => rfl))))), fun fr Qv hret => ?_⟩)
  replace h : m__law_old p_law_used Q noX := h
  unfold m__law_old at h
  refine kn_seq (kn_if (wt_test (we_op (we_callE (wa_cons (we_var rfl (wa_cons (we_cI (wa_nil ?_)))))))))
  refine sps_KN (j := 0) rfl (by have hb : big = 100000 := rfl; omega) (6 : Int) h (fun v1 h => ?_)
  try dsimp only [List.set]
  refine we_cI (ops_eqI (⟨_, rfl, ⟨fun hc => ?_, fun hc => ?_⟩⟩))
  · have h := h.1 hc
    refine kn_ret (we_callE (wa_cons (we_var rfl (wa_cons (we_var rfl (wa_nil ?_))))))
    refine sps_KN (j := 0) rfl (by have hb : big = 100000 := rfl; omega) p_law_used h (fun v2 h => ?_)
    try dsimp only [List.set]
    exact hret _ h _ _ (by have hb : big = 100000 := rfl; omega) (List.mem_of_getElem? (i := 0) rfl)
  · have h := h.2 hc
    refine kn_next ?_
    try dsimp only
    refine kn_ret (we_op (we_var rfl (we_callE (wa_cons (we_var rfl (wa_cons (we_cb (wa_cons (we_var rfl (wa_nil (cy_len sy_L (fun e3 => (wa_nil ?_)))))))))))))
    refine sps_KN (j := 0) rfl (by have hb : big = 100000 := rfl; omega) ((p_law_used).length : Int) h (fun v4 h => ?_)
    try dsimp only [List.set]
    obtain ⟨v5, ev5, h⟩ := h
    refine oy_ixL ev5 ?_
    exact hret _ h _ _ (by have hb : big = 100000 := rfl; omega) (List.mem_of_getElem? (i := 0) rfl)
end
section
variable {P : Program} {w : World} {K : PySem.W.Frag} {mg : Str → Option Value} {base : Heap}
abbrev s__law_one_class : Stmt := topS 53
theorem sc__law_one_class : FnScope ["_law_e", "_law_many"] ["_law_e"] (defScope s__law_one_class) := ⟨rfl, rfl, rfl, by decide +kernel, rfl, by decide +kernel, by decide +kernel⟩
def m__law_one_classU  : DM Bool := fun Q X =>
  ∀ many1, many1 = [true, false, false, false] →
  Q ((decide ((((many1).count true : Int) + (if false then 1 else 0 : Int)) = (1 : Int))) && true)
theorem ok__law_one_classU {k : Nat} {cs : EK → Addr} {C_HeldError f_UnknownName : Addr} (B : Bl mg) (g_UnknownName : Glo mg "UnknownName" (.ref (cs .unknown))) (g_DoubleName : Glo mg "DoubleName" (.ref (cs .double))) (g_BadPair : Glo mg "BadPair" (.ref (cs .badPair))) (g_BadWord : Glo mg "BadWord" (.ref (cs .badWord))) (g_TooMany : Glo mg "TooMany" (.ref (cs .tooMany))) (g_HeldError : Glo mg "HeldError" (.ref C_HeldError)) (X_UnknownName : ErrTxt P K mg false "UnknownName" (cs .unknown) f_UnknownName ["name"]) (kt_UnknownName_BadPair : PySem.W.kitOne K (.ref (cs .unknown)) (.ref (cs .badPair)) = some false) (kt_UnknownName_BadWord : PySem.W.kitOne K (.ref (cs .unknown)) (.ref (cs .badWord)) = some false) (kt_UnknownName_DoubleName : PySem.W.kitOne K (.ref (cs .unknown)) (.ref (cs .double)) = some false) (kt_UnknownName_HeldError : PySem.W.kitOne K (.ref (cs .unknown)) (.ref C_HeldError) = some true) (kt_UnknownName_TooMany : PySem.W.kitOne K (.ref (cs .unknown)) (.ref (cs .tooMany)) = some false) (kt_UnknownName_UnknownName : PySem.W.kitOne K (.ref (cs .unknown)) (.ref (cs .unknown)) = some true)
    (F : Src K mg "_law_one_class" s__law_one_class ["_law_e"]) : DefE P w K mg base CX0 (k + 1) "_law_one_class" ["_law_e"] (spE (cs .unknown) (fun x : Unit => []) zB (fun x => m__law_one_classU)) := by
  refine F.okEW sc__law_one_class (fun _ => rfl) (fun f cdv A outer s H E ea ed efs oe x Q hz hf hr h => ⟨_, (pss_cons (ps_asg (pe_lst (pa_cons (pe_callB (kcall_isE (K := K) (List.mem_cons_self ..) hz hf) (by rfl) B.isinstance (by decide +kernel) (pa_cons (pv 0) (pa_cons (pe_glo g_UnknownName) pa_nil))) (pa_cons (pe_callB (kcall_isE (K := K) (List.mem_cons_self ..) hz hf) (by rfl) B.isinstance (by decide +kernel) (pa_cons (pv 0) (pa_cons (pe_glo g_DoubleName) pa_nil))) (pa_cons (pe_callB (kcall_isE (K := K) (List.mem_cons_self ..) hz hf) (by rfl) B.isinstance (by decide +kernel) (pa_cons (pv 0) (pa_cons (pe_glo g_BadPair) pa_nil))) (pa_cons (pe_callB (kcall_isE (K := K) (List.mem_cons_self ..) hz hf) (by rfl) B.isinstance (by decide +kernel) (pa_cons (pv 0) (pa_cons (pe_glo g_BadWord) pa_nil))) pa_nil))))) (pg_name (i := 1) sc__law_one_class.nd rfl (Or.inl rfl)))
 (pss_one (ps_ret (pe_and (pe_cmpR op_eq (pe_op op_add (kpe_bm (K := K) PySem.F.plainAttrs_list PySem.F.slot_list_count PySem.F.type_list_count (kmt_lcountB (K := K)) (pv 1) (pa_cons pe_bl pa_nil)) (pe_callTy call_int1 (by rfl) B.int' (by decide +kernel) (pa_cons (pe_callB (kcall_isE (K := K) (List.mem_cons_self ..) hz hf) (by rfl) B.isinstance (by decide +kernel) (pa_cons (pv 0) (pa_cons (pe_glo g_TooMany) pa_nil))) pa_nil))) pe_int (nomark _)) (pe_one (pe_callB (kcall_isE (K := K) (List.mem_cons_self ..) hz hf) (by rfl) B.isinstance (by decide +kernel) (pa_cons (pv 0) (pa_cons (pe_glo g_HeldError) pa_nil)))))))), fun fr Qv hret => ?_⟩)
  replace h : m__law_one_classU Q noX := h
  unfold m__law_one_classU at h
  refine kn_seq (kn_asgL (i := 1) (r := (yL zB)) (we_lstY (r := zB) (wa_cons (we_cb (wa_cons (we_var rfl (wa_cons (we_cA (wa_nil (cb_isD X_UnknownName.isC kt_UnknownName_UnknownName (wa_cons (we_cb (wa_cons (we_var rfl (wa_cons (we_cA (wa_nil (cb_isD X_UnknownName.isC kt_UnknownName_DoubleName (wa_cons (we_cb (wa_cons (we_var rfl (wa_cons (we_cA (wa_nil (cb_isD X_UnknownName.isC kt_UnknownName_BadPair (wa_cons (we_cb (wa_cons (we_var rfl (wa_cons (we_cA (wa_nil (cb_isD X_UnknownName.isC kt_UnknownName_BadWord (wa_nil (⟨[true, false, false, false], rfl, Nat.le_of_ble_eq_true rfl, ⟨_, rfl, fun many1 emany1 => ?_⟩⟩))))))))))))))))))))))))))))))))))))
  have h := h many1 emany1
  try dsimp only
  refine kn_ret (we_andP (we_op (we_op (we_bm (we_var rfl (⟨tyl_yL, wa_cons (we_cB (wa_nil (my_countB (we_cb (wa_cons (we_cb (wa_cons (we_var rfl (wa_cons (we_cA (wa_nil (cb_isD X_UnknownName.isC kt_UnknownName_TooMany (wa_nil (cy_intB (ops_I0 (we_cI (ops_eqI (⟨_, _, rfl, fun _ => we_cb (wa_cons (we_var rfl (wa_cons (we_cA (wa_nil (cb_isD X_UnknownName.isC kt_UnknownName_HeldError (⟨rfl, rfl⟩))))))), ?_⟩))))))))))))))))))⟩))))))
  exact hret _ h _
def m__law_one_classD  : DM Bool := fun Q X =>
  ∀ many1, many1 = [false, true, false, false] →
  Q ((decide ((((many1).count true : Int) + (if false then 1 else 0 : Int)) = (1 : Int))) && true)
theorem ok__law_one_classD {k : Nat} {cs : EK → Addr} {C_HeldError f_DoubleName : Addr} (B : Bl mg) (g_UnknownName : Glo mg "UnknownName" (.ref (cs .unknown))) (g_DoubleName : Glo mg "DoubleName" (.ref (cs .double))) (g_BadPair : Glo mg "BadPair" (.ref (cs .badPair))) (g_BadWord : Glo mg "BadWord" (.ref (cs .badWord))) (g_TooMany : Glo mg "TooMany" (.ref (cs .tooMany))) (g_HeldError : Glo mg "HeldError" (.ref C_HeldError)) (X_DoubleName : ErrTxt P K mg false "DoubleName" (cs .double) f_DoubleName ["name"]) (kt_DoubleName_BadPair : PySem.W.kitOne K (.ref (cs .double)) (.ref (cs .badPair)) = some false) (kt_DoubleName_BadWord : PySem.W.kitOne K (.ref (cs .double)) (.ref (cs .badWord)) = some false) (kt_DoubleName_DoubleName : PySem.W.kitOne K (.ref (cs .double)) (.ref (cs .double)) = some true) (kt_DoubleName_HeldError : PySem.W.kitOne K (.ref (cs .double)) (.ref C_HeldError) = some true) (kt_DoubleName_TooMany : PySem.W.kitOne K (.ref (cs .double)) (.ref (cs .tooMany)) = some false) (kt_DoubleName_UnknownName : PySem.W.kitOne K (.ref (cs .double)) (.ref (cs .unknown)) = some false)
    (F : Src K mg "_law_one_class" s__law_one_class ["_law_e"]) : DefE P w K mg base CX0 (k + 1) "_law_one_class" ["_law_e"] (spE (cs .double) (fun x : Unit => []) zB (fun x => m__law_one_classD)) := by
  refine F.okEW sc__law_one_class (fun _ => rfl) (fun f cdv A outer s H E ea ed efs oe x Q hz hf hr h => ⟨_, (pss_cons (ps_asg (pe_lst (pa_cons (pe_callB (kcall_isE (K := K) (List.mem_cons_self ..) hz hf) (by rfl) B.isinstance (by decide +kernel) (pa_cons (pv 0) (pa_cons (pe_glo g_UnknownName) pa_nil))) (pa_cons (pe_callB (kcall_isE (K := K) (List.mem_cons_self ..) hz hf) (by rfl) B.isinstance (by decide +kernel) (pa_cons (pv 0) (pa_cons (pe_glo g_DoubleName) pa_nil))) (pa_cons (pe_callB (kcall_isE (K := K) (List.mem_cons_self ..) hz hf) (by rfl) B.isinstance (by decide +kernel) (pa_cons (pv 0) (pa_cons (pe_glo g_BadPair) pa_nil))) (pa_cons (pe_callB (kcall_isE (K := K) (List.mem_cons_self ..) hz hf) (by rfl) B.isinstance (by decide +kernel) (pa_cons (pv 0) (pa_cons (pe_glo g_BadWord) pa_nil))) pa_nil))))) (pg_name (i := 1) sc__law_one_class.nd rfl (Or.inl rfl)))
 (pss_one (ps_ret (pe_and (pe_cmpR op_eq (pe_op op_add (kpe_bm (K := K) PySem.F.plainAttrs_list PySem.F.slot_list_count PySem.F.type_list_count (kmt_lcountB (K := K)) (pv 1) (pa_cons pe_bl pa_nil)) (pe_callTy call_int1 (by rfl) B.int' (by decide +kernel) (pa_cons (pe_callB (kcall_isE (K := K) (List.mem_cons_self ..) hz hf) (by rfl) B.isinstance (by decide +kernel) (pa_cons (pv 0) (pa_cons (pe_glo g_TooMany) pa_nil))) pa_nil))) pe_int (nomark _)) (pe_one (pe_callB (kcall_isE (K := K) (List.mem_cons_self ..) hz hf) (by rfl) B.isinstance (by decide +kernel) (pa_cons (pv 0) (pa_cons (pe_glo g_HeldError) pa_nil)))))))), fun fr Qv hret => ?_⟩)
  replace h : m__law_one_classD Q noX := h
  unfold m__law_one_classD at h
  refine kn_seq (kn_asgL (i := 1) (r := (yL zB)) (we_lstY (r := zB) (wa_cons (we_cb (wa_cons (we_var rfl (wa_cons (we_cA (wa_nil (cb_isD X_DoubleName.isC kt_DoubleName_UnknownName (wa_cons (we_cb (wa_cons (we_var rfl (wa_cons (we_cA (wa_nil (cb_isD X_DoubleName.isC kt_DoubleName_DoubleName (wa_cons (we_cb (wa_cons (we_var rfl (wa_cons (we_cA (wa_nil (cb_isD X_DoubleName.isC kt_DoubleName_BadPair (wa_cons (we_cb (wa_cons (we_var rfl (wa_cons (we_cA (wa_nil (cb_isD X_DoubleName.isC kt_DoubleName_BadWord (wa_nil (⟨[false, true, false, false], rfl, Nat.le_of_ble_eq_true rfl, ⟨_, rfl, fun many1 emany1 => ?_⟩⟩))))))))))))))))))))))))))))))))))))
  have h := h many1 emany1
  try dsimp only
  refine kn_ret (we_andP (we_op (we_op (we_bm (we_var rfl (⟨tyl_yL, wa_cons (we_cB (wa_nil (my_countB (we_cb (wa_cons (we_cb (wa_cons (we_var rfl (wa_cons (we_cA (wa_nil (cb_isD X_DoubleName.isC kt_DoubleName_TooMany (wa_nil (cy_intB (ops_I0 (we_cI (ops_eqI (⟨_, _, rfl, fun _ => we_cb (wa_cons (we_var rfl (wa_cons (we_cA (wa_nil (cb_isD X_DoubleName.isC kt_DoubleName_HeldError (⟨rfl, rfl⟩))))))), ?_⟩))))))))))))))))))⟩))))))
  exact hret _ h _
def m__law_one_classW  : DM Bool := fun Q X =>
  ∀ many1, many1 = [false, false, false, true] →
  Q ((decide ((((many1).count true : Int) + (if false then 1 else 0 : Int)) = (1 : Int))) && true)
theorem ok__law_one_classW {k : Nat} {cs : EK → Addr} {C_HeldError f_BadWord : Addr} (B : Bl mg) (g_UnknownName : Glo mg "UnknownName" (.ref (cs .unknown))) (g_DoubleName : Glo mg "DoubleName" (.ref (cs .double))) (g_BadPair : Glo mg "BadPair" (.ref (cs .badPair))) (g_BadWord : Glo mg "BadWord" (.ref (cs .badWord))) (g_TooMany : Glo mg "TooMany" (.ref (cs .tooMany))) (g_HeldError : Glo mg "HeldError" (.ref C_HeldError)) (X_BadWord : ErrTxt P K mg false "BadWord" (cs .badWord) f_BadWord ["word"]) (kt_BadWord_BadPair : PySem.W.kitOne K (.ref (cs .badWord)) (.ref (cs .badPair)) = some false) (kt_BadWord_BadWord : PySem.W.kitOne K (.ref (cs .badWord)) (.ref (cs .badWord)) = some true) (kt_BadWord_DoubleName : PySem.W.kitOne K (.ref (cs .badWord)) (.ref (cs .double)) = some false) (kt_BadWord_HeldError : PySem.W.kitOne K (.ref (cs .badWord)) (.ref C_HeldError) = some true) (kt_BadWord_TooMany : PySem.W.kitOne K (.ref (cs .badWord)) (.ref (cs .tooMany)) = some false) (kt_BadWord_UnknownName : PySem.W.kitOne K (.ref (cs .badWord)) (.ref (cs .unknown)) = some false)
    (F : Src K mg "_law_one_class" s__law_one_class ["_law_e"]) : DefE P w K mg base CX0 (k + 1) "_law_one_class" ["_law_e"] (spE (cs .badWord) (fun x : Unit => []) zB (fun x => m__law_one_classW)) := by
  refine F.okEW sc__law_one_class (fun _ => rfl) (fun f cdv A outer s H E ea ed efs oe x Q hz hf hr h => ⟨_, (pss_cons (ps_asg (pe_lst (pa_cons (pe_callB (kcall_isE (K := K) (List.mem_cons_self ..) hz hf) (by rfl) B.isinstance (by decide +kernel) (pa_cons (pv 0) (pa_cons (pe_glo g_UnknownName) pa_nil))) (pa_cons (pe_callB (kcall_isE (K := K) (List.mem_cons_self ..) hz hf) (by rfl) B.isinstance (by decide +kernel) (pa_cons (pv 0) (pa_cons (pe_glo g_DoubleName) pa_nil))) (pa_cons (pe_callB (kcall_isE (K := K) (List.mem_cons_self ..) hz hf) (by rfl) B.isinstance (by decide +kernel) (pa_cons (pv 0) (pa_cons (pe_glo g_BadPair) pa_nil))) (pa_cons (pe_callB (kcall_isE (K := K) (List.mem_cons_self ..) hz hf) (by rfl) B.isinstance (by decide +kernel) (pa_cons (pv 0) (pa_cons (pe_glo g_BadWord) pa_nil))) pa_nil))))) (pg_name (i := 1) sc__law_one_class.nd rfl (Or.inl rfl)))
 (pss_one (ps_ret (pe_and (pe_cmpR op_eq (pe_op op_add (kpe_bm (K := K) PySem.F.plainAttrs_list PySem.F.slot_list_count PySem.F.type_list_count (kmt_lcountB (K := K)) (pv 1) (pa_cons pe_bl pa_nil)) (pe_callTy call_int1 (by rfl) B.int' (by decide +kernel) (pa_cons (pe_callB (kcall_isE (K := K) (List.mem_cons_self ..) hz hf) (by rfl) B.isinstance (by decide +kernel) (pa_cons (pv 0) (pa_cons (pe_glo g_TooMany) pa_nil))) pa_nil))) pe_int (nomark _)) (pe_one (pe_callB (kcall_isE (K := K) (List.mem_cons_self ..) hz hf) (by rfl) B.isinstance (by decide +kernel) (pa_cons (pv 0) (pa_cons (pe_glo g_HeldError) pa_nil)))))))), fun fr Qv hret => ?_⟩)
  replace h : m__law_one_classW Q noX := h
  unfold m__law_one_classW at h
  refine kn_seq (kn_asgL (i := 1) (r := (yL zB)) (we_lstY (r := zB) (wa_cons (we_cb (wa_cons (we_var rfl (wa_cons (we_cA (wa_nil (cb_isD X_BadWord.isC kt_BadWord_UnknownName (wa_cons (we_cb (wa_cons (we_var rfl (wa_cons (we_cA (wa_nil (cb_isD X_BadWord.isC kt_BadWord_DoubleName (wa_cons (we_cb (wa_cons (we_var rfl (wa_cons (we_cA (wa_nil (cb_isD X_BadWord.isC kt_BadWord_BadPair (wa_cons (we_cb (wa_cons (we_var rfl (wa_cons (we_cA (wa_nil (cb_isD X_BadWord.isC kt_BadWord_BadWord (wa_nil (⟨[false, false, false, true], rfl, Nat.le_of_ble_eq_true rfl, ⟨_, rfl, fun many1 emany1 => ?_⟩⟩))))))))))))))))))))))))))))))))))))
  have h := h many1 emany1
  try dsimp only
  refine kn_ret (we_andP (we_op (we_op (we_bm (we_var rfl (⟨tyl_yL, wa_cons (we_cB (wa_nil (my_countB (we_cb (wa_cons (we_cb (wa_cons (we_var rfl (wa_cons (we_cA (wa_nil (cb_isD X_BadWord.isC kt_BadWord_TooMany (wa_nil (cy_intB (ops_I0 (we_cI (ops_eqI (⟨_, _, rfl, fun _ => we_cb (wa_cons (we_var rfl (wa_cons (we_cA (wa_nil (cb_isD X_BadWord.isC kt_BadWord_HeldError (⟨rfl, rfl⟩))))))), ?_⟩))))))))))))))))))⟩))))))
  exact hret _ h _
def m__law_one_classT  : DM Bool := fun Q X =>
  ∀ many1, many1 = [false, false, false, false] →
  Q ((decide ((((many1).count true : Int) + (if true then 1 else 0 : Int)) = (1 : Int))) && true)
theorem ok__law_one_classT {k : Nat} {cs : EK → Addr} {C_HeldError f_TooMany : Addr} (B : Bl mg) (g_UnknownName : Glo mg "UnknownName" (.ref (cs .unknown))) (g_DoubleName : Glo mg "DoubleName" (.ref (cs .double))) (g_BadPair : Glo mg "BadPair" (.ref (cs .badPair))) (g_BadWord : Glo mg "BadWord" (.ref (cs .badWord))) (g_TooMany : Glo mg "TooMany" (.ref (cs .tooMany))) (g_HeldError : Glo mg "HeldError" (.ref C_HeldError)) (X_TooMany : ErrTxt P K mg true "TooMany" (cs .tooMany) f_TooMany ["kind", "limit"]) (kt_TooMany_BadPair : PySem.W.kitOne K (.ref (cs .tooMany)) (.ref (cs .badPair)) = some false) (kt_TooMany_BadWord : PySem.W.kitOne K (.ref (cs .tooMany)) (.ref (cs .badWord)) = some false) (kt_TooMany_DoubleName : PySem.W.kitOne K (.ref (cs .tooMany)) (.ref (cs .double)) = some false) (kt_TooMany_HeldError : PySem.W.kitOne K (.ref (cs .tooMany)) (.ref C_HeldError) = some true) (kt_TooMany_TooMany : PySem.W.kitOne K (.ref (cs .tooMany)) (.ref (cs .tooMany)) = some true) (kt_TooMany_UnknownName : PySem.W.kitOne K (.ref (cs .tooMany)) (.ref (cs .unknown)) = some false)
    (F : Src K mg "_law_one_class" s__law_one_class ["_law_e"]) : DefE P w K mg base CX0 (k + 1) "_law_one_class" ["_law_e"] (spE (cs .tooMany) (fun x : Unit => []) zB (fun x => m__law_one_classT)) := by
  refine F.okEW sc__law_one_class (fun _ => rfl) (fun f cdv A outer s H E ea ed efs oe x Q hz hf hr h => ⟨_, (pss_cons (ps_asg (pe_lst (pa_cons (pe_callB (kcall_isE (K := K) (List.mem_cons_self ..) hz hf) (by rfl) B.isinstance (by decide +kernel) (pa_cons (pv 0) (pa_cons (pe_glo g_UnknownName) pa_nil))) (pa_cons (pe_callB (kcall_isE (K := K) (List.mem_cons_self ..) hz hf) (by rfl) B.isinstance (by decide +kernel) (pa_cons (pv 0) (pa_cons (pe_glo g_DoubleName) pa_nil))) (pa_cons (pe_callB (kcall_isE (K := K) (List.mem_cons_self ..) hz hf) (by rfl) B.isinstance (by decide +kernel) (pa_cons (pv 0) (pa_cons (pe_glo g_BadPair) pa_nil))) (pa_cons (pe_callB (kcall_isE (K := K) (List.mem_cons_self ..) hz hf) (by rfl) B.isinstance (by decide +kernel) (pa_cons (pv 0) (pa_cons (pe_glo g_BadWord) pa_nil))) pa_nil))))) (pg_name (i := 1) sc__law_one_class.nd rfl (Or.inl rfl)))
 (pss_one (ps_ret (pe_and (pe_cmpR op_eq (pe_op op_add (kpe_bm (K := K) PySem.F.plainAttrs_list PySem.F.slot_list_count PySem.F.type_list_count (kmt_lcountB (K := K)) (pv 1) (pa_cons pe_bl pa_nil)) (pe_callTy call_int1 (by rfl) B.int' (by decide +kernel) (pa_cons (pe_callB (kcall_isE (K := K) (List.mem_cons_self ..) hz hf) (by rfl) B.isinstance (by decide +kernel) (pa_cons (pv 0) (pa_cons (pe_glo g_TooMany) pa_nil))) pa_nil))) pe_int (nomark _)) (pe_one (pe_callB (kcall_isE (K := K) (List.mem_cons_self ..) hz hf) (by rfl) B.isinstance (by decide +kernel) (pa_cons (pv 0) (pa_cons (pe_glo g_HeldError) pa_nil)))))))), fun fr Qv hret => ?_⟩)
  replace h : m__law_one_classT Q noX := h
  unfold m__law_one_classT at h
  refine kn_seq (kn_asgL (i := 1) (r := (yL zB)) (we_lstY (r := zB) (wa_cons (we_cb (wa_cons (we_var rfl (wa_cons (we_cA (wa_nil (cb_isD X_TooMany.isC kt_TooMany_UnknownName (wa_cons (we_cb (wa_cons (we_var rfl (wa_cons (we_cA (wa_nil (cb_isD X_TooMany.isC kt_TooMany_DoubleName (wa_cons (we_cb (wa_cons (we_var rfl (wa_cons (we_cA (wa_nil (cb_isD X_TooMany.isC kt_TooMany_BadPair (wa_cons (we_cb (wa_cons (we_var rfl (wa_cons (we_cA (wa_nil (cb_isD X_TooMany.isC kt_TooMany_BadWord (wa_nil (⟨[false, false, false, false], rfl, Nat.le_of_ble_eq_true rfl, ⟨_, rfl, fun many1 emany1 => ?_⟩⟩))))))))))))))))))))))))))))))))))))
  have h := h many1 emany1
  try dsimp only
  refine kn_ret (we_andP (we_op (we_op (we_bm (we_var rfl (⟨tyl_yL, wa_cons (we_cB (wa_nil (my_countB (we_cb (wa_cons (we_cb (wa_cons (we_var rfl (wa_cons (we_cA (wa_nil (cb_isD X_TooMany.isC kt_TooMany_TooMany (wa_nil (cy_intB (ops_I0 (we_cI (ops_eqI (⟨_, _, rfl, fun _ => we_cb (wa_cons (we_var rfl (wa_cons (we_cA (wa_nil (cb_isD X_TooMany.isC kt_TooMany_HeldError (⟨rfl, rfl⟩))))))), ?_⟩))))))))))))))))))⟩))))))
  exact hret _ h _
end
section
variable {P : Program} {w : World} {K : PySem.W.Frag} {mg : Str → Option Value} {base : Heap}
abbrev s__law_told : Stmt := topS 54
theorem sc__law_told : FnScope ["_law_plan_here", "_law_place", "_law_word_here", "_law_name", "_law_made", "_law_e"] ["_law_plan_here", "_law_place", "_law_word_here", "_law_name", "_law_made"] (defScope s__law_told) := ⟨rfl, rfl, rfl, by decide +kernel, rfl, by decide +kernel, by decide +kernel⟩
def m__law_told (p_law_plan_here : PlanD) (p_law_place : Str) (p_law_word_here : Str) (p_law_name : (Option Str)) (p_law_made : (List PlanD)) : DM (PyData × (List PlanD)) := fun Q X =>
  tryD (fun e => match e with
  | .unknown y5 => m__law_one_classU  (fun v8 =>
  Q ((bif v8 then (XDat.enc (r := (z2 yS yS)) (("UnknownName" : Str), y5)) else (XDat.enc (r := (z1 yS)) ("wrong" : Str))), p_law_made)) noX
  | .double y9 => m__law_one_classD  (fun v12 =>
  Q ((bif v12 then (XDat.enc (r := (z2 yS yS)) (("DoubleName" : Str), y9)) else (XDat.enc (r := (z1 yS)) ("wrong" : Str))), p_law_made)) noX
  | .badWord y13 => m__law_one_classW  (fun v16 =>
  Q ((bif v16 then (XDat.enc (r := (z2 yS yS)) (("BadWord" : Str), y13)) else (XDat.enc (r := (z1 yS)) ("wrong" : Str))), p_law_made)) noX
  | .tooMany y17 y18 => m__law_one_classT  (fun v21 =>
  Q ((bif v21 then (XDat.enc (r := (z3 yS yS zI)) (("TooMany" : Str), y17, y18)) else (XDat.enc (r := (z1 yS)) ("wrong" : Str))), p_law_made)) noX
  | e => noX e) (fun X1 =>
  optD p_law_name (m_twin p_law_plan_here p_law_place p_law_word_here (fun v3 =>
  (p_law_made).length < big ∧
  Q ((XDat.enc (r := (z1 yS)) ("ok" : Str)), (p_law_made ++ [v3]))) X1) (fun name2 =>
  m_stretch p_law_plan_here p_law_place p_law_word_here name2 (fun v23 =>
  (p_law_made).length < big ∧
  Q ((XDat.enc (r := (z1 yS)) ("ok" : Str)), (p_law_made ++ [v23]))) X1))
theorem ok__law_told {k : Nat} {cs : EK → Addr} {C f_UnknownName f_DoubleName f_BadWord f_TooMany : Addr} (B : Bl mg) (D_twin : Def P w K mg base (L2.CX P w) k "twin" ["plan", "place", "new_place"] (spA (preW (erW cs) (fun x : PlanD × Str × Str => [iz (zPlan C) x.1, iz yS x.2.1, iz yS x.2.2]) (zPlan C) (fun x => m_twin x.1 x.2.1 x.2.2)))) (D_stretch : Def P w K mg base (L2.CX P w) k "stretch" ["plan", "place", "new_place", "new_step"] (spA (preW (erW cs) (fun x : PlanD × Str × Str × Str => [iz (zPlan C) x.1, iz yS x.2.1, iz yS x.2.2.1, iz yS x.2.2.2]) (zPlan C) (fun x => m_stretch x.1 x.2.1 x.2.2.1 x.2.2.2)))) (D__law_one_classU : DefE P w K mg base CX0 k "_law_one_class" ["_law_e"] (spE (cs .unknown) (fun x : Unit => []) zB (fun x => m__law_one_classU))) (D__law_one_classD : DefE P w K mg base CX0 k "_law_one_class" ["_law_e"] (spE (cs .double) (fun x : Unit => []) zB (fun x => m__law_one_classD))) (D__law_one_classW : DefE P w K mg base CX0 k "_law_one_class" ["_law_e"] (spE (cs .badWord) (fun x : Unit => []) zB (fun x => m__law_one_classW))) (D__law_one_classT : DefE P w K mg base CX0 k "_law_one_class" ["_law_e"] (spE (cs .tooMany) (fun x : Unit => []) zB (fun x => m__law_one_classT))) (X_UnknownName : ErrTxt P K mg false "UnknownName" (cs .unknown) f_UnknownName ["name"]) (X_DoubleName : ErrTxt P K mg false "DoubleName" (cs .double) f_DoubleName ["name"]) (X_BadWord : ErrTxt P K mg false "BadWord" (cs .badWord) f_BadWord ["word"]) (X_TooMany : ErrTxt P K mg true "TooMany" (cs .tooMany) f_TooMany ["kind", "limit"]) (xN_BadWord_DoubleName : PySem.W.exmOne K (.ref (cs .badWord)) (.ref (cs .double)) = some false) (xN_BadWord_UnknownName : PySem.W.exmOne K (.ref (cs .badWord)) (.ref (cs .unknown)) = some false) (xN_DoubleName_UnknownName : PySem.W.exmOne K (.ref (cs .double)) (.ref (cs .unknown)) = some false) (xN_TooMany_BadWord : PySem.W.exmOne K (.ref (cs .tooMany)) (.ref (cs .badWord)) = some false) (xN_TooMany_DoubleName : PySem.W.exmOne K (.ref (cs .tooMany)) (.ref (cs .double)) = some false) (xN_TooMany_UnknownName : PySem.W.exmOne K (.ref (cs .tooMany)) (.ref (cs .unknown)) = some false)
    (F : Src K mg "_law_told" s__law_told ["_law_plan_here", "_law_place", "_law_word_here", "_law_name", "_law_made"]) : Def P w K mg base CX0 (k + 1) "_law_told" ["_law_plan_here", "_law_place", "_law_word_here", "_law_name", "_law_made"] (spC (preL (erW cs) (fun (as : List Addr) (x : PlanD × Str × Str × (Option Str) × (List PlanD)) => [iz (zPlan C) x.1, iz yS x.2.1, iz yS x.2.2.1, iz (yO yS) x.2.2.2.1, zAt (ad as 0)]) (fun (as : List Addr) (x : PlanD × Str × Str × (Option Str) × (List PlanD)) => [cY (ad as 0) (zPlan C) x.2.2.2.2]) yX (fun (as : List Addr) (x : PlanD × Str × Str × (Option Str) × (List PlanD)) (g : (List PlanD)) => [cY (ad as 0) (zPlan C) g]) (fun x : PlanD × Str × Str × (Option Str) × (List PlanD) => m__law_told x.1 x.2.1 x.2.2.1 x.2.2.2.1 x.2.2.2.2))) := by
  refine F.okL sc__law_told (fun _ _ => rfl) (fun as x c hc => by
    simp only [List.mem_cons, List.not_mem_nil, or_false] at hc
    rcases hc with rfl <;> rfl) (fun _ _ _ => rfl) (fun f cdv A outer s H E as x Q X hr h => ⟨_, (pss_one (ps_try_all (K := K) rfl rfl sc__law_told.nd takes0 (fun W pn xe tk _ => (pss_cons (ps_if (pt_cmpR op_isN (pv 3) pe_non (nomark _)) (pss_one (ps_expr (kpe_bm (K := K) PySem.F.plainAttrs_list PySem.F.slot_list_append PySem.F.type_list_append mt_append (pv 4) (pa_cons (pe_defS D_twin hr (fun σ => passAt tk σ) (pa_cons (pv 0) (pa_cons (pv 1) (pa_cons (pv 2) pa_nil)))) pa_nil)))) (pss_one (ps_expr (kpe_bm (K := K) PySem.F.plainAttrs_list PySem.F.slot_list_append PySem.F.type_list_append mt_append (pv 4) (pa_cons (pe_defS D_stretch hr (fun σ => passAt tk σ) (pa_cons (pv 0) (pa_cons (pv 1) (pa_cons (pv 2) (pa_cons (pv 3) pa_nil))))) pa_nil)))))
 (pss_one (ps_ret (pe_tup (pa_cons pe_str pa_nil)))))) (by exact (.named (i := 5) rfl rfl ⟨rfl, by decide, .inl X_UnknownName.gC⟩ (fun a oe cls d pn hz hf => (pss_one (ps_ret (pe_ifExp (pt_val (pe_callE D__law_one_classU hr hz hf (pa_cons (pv 5) pa_nil))) (pe_tup (pa_cons pe_str (pa_cons (pe_xf X_UnknownName.xf (X_UnknownName.noN _ (by decide)) hz hf (pv 5)) pa_nil))) (pe_tup (pa_cons pe_str pa_nil)))))) (.named (i := 5) rfl rfl ⟨rfl, by decide, .inl X_DoubleName.gC⟩ (fun a oe cls d pn hz hf => (pss_one (ps_ret (pe_ifExp (pt_val (pe_callE D__law_one_classD hr hz hf (pa_cons (pv 5) pa_nil))) (pe_tup (pa_cons pe_str (pa_cons (pe_xf X_DoubleName.xf (X_DoubleName.noN _ (by decide)) hz hf (pv 5)) pa_nil))) (pe_tup (pa_cons pe_str pa_nil)))))) (.named (i := 5) rfl rfl ⟨rfl, by decide, .inl X_BadWord.gC⟩ (fun a oe cls d pn hz hf => (pss_one (ps_ret (pe_ifExp (pt_val (pe_callE D__law_one_classW hr hz hf (pa_cons (pv 5) pa_nil))) (pe_tup (pa_cons pe_str (pa_cons (pe_xf X_BadWord.xf (X_BadWord.noN _ (by decide)) hz hf (pv 5)) pa_nil))) (pe_tup (pa_cons pe_str pa_nil)))))) (.named (i := 5) rfl rfl ⟨rfl, by decide, .inl X_TooMany.gC⟩ (fun a oe cls d pn hz hf => (pss_one (ps_ret (pe_ifExp (pt_val (pe_callE D__law_one_classT hr hz hf (pa_cons (pv 5) pa_nil))) (pe_tup (pa_cons pe_str (pa_cons (pe_xf X_TooMany.xf (X_TooMany.noN _ (by decide)) hz hf (pv 5)) (pa_cons (pe_xf X_TooMany.xf (X_TooMany.noN _ (by decide)) hz hf (pv 5)) pa_nil)))) (pe_tup (pa_cons pe_str pa_nil)))))) .nil))))))), fun fr Qv hret => ?_⟩)
  obtain ⟨p_law_plan_here, p_law_place, p_law_word_here, p_law_name, p_law_made⟩ := x
  replace h : m__law_told p_law_plan_here p_law_place p_law_word_here p_law_name p_law_made Q X := h
  unfold m__law_told at h
  replace h := tryD.go h
  try dsimp only
  refine kn_seq (kn_if (wt_test (we_op (we_var rfl (we_cNy (oy_isO (⟨_, rfl, optK h (fun ename2 h => ?_) (fun name2 ename2 h => ?_)⟩)))))))
  · revert h; (first | subst ename2 | rw [ename2]); intro h
    refine kn_appY (i := 4) (j := 0) rfl rfl (we_callS (wa_cons (we_var rfl (wa_cons (we_var rfl (wa_cons (we_var rfl (wa_nil ?_))))))))
    refine sps_WT (p_law_plan_here, p_law_place, p_law_word_here) h (fun zv4 h => ?_) (fun v3 h => ?_)
    · cases zv4 with
      | unknown y5 =>
        try dsimp only at h
        refine kr_cl X_UnknownName.te fun a6 d7 => ?_
        try dsimp only
        refine kn_ret (we_ifP (r := yX) (wt_b (we_callE (wa_cons (we_var rfl (wa_nil ?_))))))
        refine sps_E () h (fun v8 h => ?_)
        refine ⟨_, rfl, ⟨_, _, fun _ => We.conv (we_tup (wa_cons (we_cSy (z := "UnknownName") (asc_of (by decide)) (by decide) (wa_cons (we_xf (we_var rfl (⟨rfl, rfl, wa_nil (⟨Nat.le_of_ble_eq_true rfl, iz (z2 yS yS) (("UnknownName" : Str), y5), tr2, ⟨_, (le_X (r := (z2 yS yS))), ⟨rfl, rfl⟩⟩⟩)⟩))))))), fun _ => We.conv (we_tup (wa_cons (we_cSy (z := "wrong") (asc_of (by decide)) (by decide) (wa_nil (⟨Nat.le_of_ble_eq_true rfl, iz (z1 yS) ("wrong" : Str), tr1, ⟨_, (le_X (r := (z1 yS))), ⟨rfl, rfl⟩⟩⟩))))), ?_⟩⟩
        exact hret _ p_law_made h _ _ (permD 0 _)
      | double y9 =>
        try dsimp only at h
        refine kr_clN xN_DoubleName_UnknownName ?_
        refine kr_cl X_DoubleName.te fun a10 d11 => ?_
        try dsimp only
        refine kn_ret (we_ifP (r := yX) (wt_b (we_callE (wa_cons (we_var rfl (wa_nil ?_))))))
        refine sps_E () h (fun v12 h => ?_)
        refine ⟨_, rfl, ⟨_, _, fun _ => We.conv (we_tup (wa_cons (we_cSy (z := "DoubleName") (asc_of (by decide)) (by decide) (wa_cons (we_xf (we_var rfl (⟨rfl, rfl, wa_nil (⟨Nat.le_of_ble_eq_true rfl, iz (z2 yS yS) (("DoubleName" : Str), y9), tr2, ⟨_, (le_X (r := (z2 yS yS))), ⟨rfl, rfl⟩⟩⟩)⟩))))))), fun _ => We.conv (we_tup (wa_cons (we_cSy (z := "wrong") (asc_of (by decide)) (by decide) (wa_nil (⟨Nat.le_of_ble_eq_true rfl, iz (z1 yS) ("wrong" : Str), tr1, ⟨_, (le_X (r := (z1 yS))), ⟨rfl, rfl⟩⟩⟩))))), ?_⟩⟩
        exact hret _ p_law_made h _ _ (permD 0 _)
      | badWord y13 =>
        try dsimp only at h
        refine kr_clN xN_BadWord_UnknownName ?_
        refine kr_clN xN_BadWord_DoubleName ?_
        refine kr_cl X_BadWord.te fun a14 d15 => ?_
        try dsimp only
        refine kn_ret (we_ifP (r := yX) (wt_b (we_callE (wa_cons (we_var rfl (wa_nil ?_))))))
        refine sps_E () h (fun v16 h => ?_)
        refine ⟨_, rfl, ⟨_, _, fun _ => We.conv (we_tup (wa_cons (we_cSy (z := "BadWord") (asc_of (by decide)) (by decide) (wa_cons (we_xf (we_var rfl (⟨rfl, rfl, wa_nil (⟨Nat.le_of_ble_eq_true rfl, iz (z2 yS yS) (("BadWord" : Str), y13), tr2, ⟨_, (le_X (r := (z2 yS yS))), ⟨rfl, rfl⟩⟩⟩)⟩))))))), fun _ => We.conv (we_tup (wa_cons (we_cSy (z := "wrong") (asc_of (by decide)) (by decide) (wa_nil (⟨Nat.le_of_ble_eq_true rfl, iz (z1 yS) ("wrong" : Str), tr1, ⟨_, (le_X (r := (z1 yS))), ⟨rfl, rfl⟩⟩⟩))))), ?_⟩⟩
        exact hret _ p_law_made h _ _ (permD 0 _)
      | tooMany y17 y18 =>
        try dsimp only at h
        refine kr_clN xN_TooMany_UnknownName ?_
        refine kr_clN xN_TooMany_DoubleName ?_
        refine kr_clN xN_TooMany_BadWord ?_
        refine kr_cl X_TooMany.te fun a19 d20 => ?_
        try dsimp only
        refine kn_ret (we_ifP (r := yX) (wt_b (we_callE (wa_cons (we_var rfl (wa_nil ?_))))))
        refine sps_E () h (fun v21 h => ?_)
        refine ⟨_, rfl, ⟨_, _, fun _ => We.conv (we_tup (wa_cons (we_cSy (z := "TooMany") (asc_of (by decide)) (by decide) (wa_cons (we_xf (we_var rfl (⟨rfl, rfl, wa_cons (we_xf (we_var rfl (⟨rfl, rfl, wa_nil (⟨Nat.le_of_ble_eq_true rfl, iz (z3 yS yS zI) (("TooMany" : Str), y17, y18), tr3, ⟨_, (le_X (r := (z3 yS yS zI))), ⟨rfl, rfl⟩⟩⟩)⟩)))⟩))))))), fun _ => We.conv (we_tup (wa_cons (we_cSy (z := "wrong") (asc_of (by decide)) (by decide) (wa_nil (⟨Nat.le_of_ble_eq_true rfl, iz (z1 yS) ("wrong" : Str), tr1, ⟨_, (le_X (r := (z1 yS))), ⟨rfl, rfl⟩⟩⟩))))), ?_⟩⟩
        exact hret _ p_law_made h _ _ (permD 0 _)
      | _ => exact (show False from h).elim
    obtain ⟨g22, h⟩ := h
    refine ⟨_, rfl, rfl, g22, ?_⟩
    try dsimp only
    refine kn_ret (We.conv (we_tup (wa_cons (we_cSy (z := "ok") (asc_of (by decide)) (by decide) (wa_nil (⟨Nat.le_of_ble_eq_true rfl, iz (z1 yS) ("ok" : Str), tr1, ⟨_, (le_X (r := (z1 yS))), ?_⟩⟩))))))
    exact hret _ (p_law_made ++ [v3]) h _ _ (permD 0 _)
  · revert h; (first | subst ename2 | rw [ename2]); intro h
    refine kn_appY (i := 4) (j := 0) rfl rfl (we_callS (wa_cons (we_var rfl (wa_cons (we_var rfl (wa_cons (we_var rfl (wa_cons (we_var rfl (wa_nil ?_))))))))))
    refine sps_WT (p_law_plan_here, p_law_place, p_law_word_here, name2) h (fun zv24 h => ?_) (fun v23 h => ?_)
    · cases zv24 with
      | unknown y25 =>
        try dsimp only at h
        refine kr_cl X_UnknownName.te fun a26 d27 => ?_
        try dsimp only
        refine kn_ret (we_ifP (r := yX) (wt_b (we_callE (wa_cons (we_var rfl (wa_nil ?_))))))
        refine sps_E () h (fun v28 h => ?_)
        refine ⟨_, rfl, ⟨_, _, fun _ => We.conv (we_tup (wa_cons (we_cSy (z := "UnknownName") (asc_of (by decide)) (by decide) (wa_cons (we_xf (we_var rfl (⟨rfl, rfl, wa_nil (⟨Nat.le_of_ble_eq_true rfl, iz (z2 yS yS) (("UnknownName" : Str), y25), tr2, ⟨_, (le_X (r := (z2 yS yS))), ⟨rfl, rfl⟩⟩⟩)⟩))))))), fun _ => We.conv (we_tup (wa_cons (we_cSy (z := "wrong") (asc_of (by decide)) (by decide) (wa_nil (⟨Nat.le_of_ble_eq_true rfl, iz (z1 yS) ("wrong" : Str), tr1, ⟨_, (le_X (r := (z1 yS))), ⟨rfl, rfl⟩⟩⟩))))), ?_⟩⟩
        exact hret _ p_law_made h _ _ (permD 0 _)
      | double y29 =>
        try dsimp only at h
        refine kr_clN xN_DoubleName_UnknownName ?_
        refine kr_cl X_DoubleName.te fun a30 d31 => ?_
        try dsimp only
        refine kn_ret (we_ifP (r := yX) (wt_b (we_callE (wa_cons (we_var rfl (wa_nil ?_))))))
        refine sps_E () h (fun v32 h => ?_)
        refine ⟨_, rfl, ⟨_, _, fun _ => We.conv (we_tup (wa_cons (we_cSy (z := "DoubleName") (asc_of (by decide)) (by decide) (wa_cons (we_xf (we_var rfl (⟨rfl, rfl, wa_nil (⟨Nat.le_of_ble_eq_true rfl, iz (z2 yS yS) (("DoubleName" : Str), y29), tr2, ⟨_, (le_X (r := (z2 yS yS))), ⟨rfl, rfl⟩⟩⟩)⟩))))))), fun _ => We.conv (we_tup (wa_cons (we_cSy (z := "wrong") (asc_of (by decide)) (by decide) (wa_nil (⟨Nat.le_of_ble_eq_true rfl, iz (z1 yS) ("wrong" : Str), tr1, ⟨_, (le_X (r := (z1 yS))), ⟨rfl, rfl⟩⟩⟩))))), ?_⟩⟩
        exact hret _ p_law_made h _ _ (permD 0 _)
      | badWord y33 =>
        try dsimp only at h
        refine kr_clN xN_BadWord_UnknownName ?_
        refine kr_clN xN_BadWord_DoubleName ?_
        refine kr_cl X_BadWord.te fun a34 d35 => ?_
        try dsimp only
        refine kn_ret (we_ifP (r := yX) (wt_b (we_callE (wa_cons (we_var rfl (wa_nil ?_))))))
        refine sps_E () h (fun v36 h => ?_)
        refine ⟨_, rfl, ⟨_, _, fun _ => We.conv (we_tup (wa_cons (we_cSy (z := "BadWord") (asc_of (by decide)) (by decide) (wa_cons (we_xf (we_var rfl (⟨rfl, rfl, wa_nil (⟨Nat.le_of_ble_eq_true rfl, iz (z2 yS yS) (("BadWord" : Str), y33), tr2, ⟨_, (le_X (r := (z2 yS yS))), ⟨rfl, rfl⟩⟩⟩)⟩))))))), fun _ => We.conv (we_tup (wa_cons (we_cSy (z := "wrong") (asc_of (by decide)) (by decide) (wa_nil (⟨Nat.le_of_ble_eq_true rfl, iz (z1 yS) ("wrong" : Str), tr1, ⟨_, (le_X (r := (z1 yS))), ⟨rfl, rfl⟩⟩⟩))))), ?_⟩⟩
        exact hret _ p_law_made h _ _ (permD 0 _)
      | tooMany y37 y38 =>
        try dsimp only at h
        refine kr_clN xN_TooMany_UnknownName ?_
        refine kr_clN xN_TooMany_DoubleName ?_
        refine kr_clN xN_TooMany_BadWord ?_
        refine kr_cl X_TooMany.te fun a39 d40 => ?_
        try dsimp only
        refine kn_ret (we_ifP (r := yX) (wt_b (we_callE (wa_cons (we_var rfl (wa_nil ?_))))))
        refine sps_E () h (fun v41 h => ?_)
        refine ⟨_, rfl, ⟨_, _, fun _ => We.conv (we_tup (wa_cons (we_cSy (z := "TooMany") (asc_of (by decide)) (by decide) (wa_cons (we_xf (we_var rfl (⟨rfl, rfl, wa_cons (we_xf (we_var rfl (⟨rfl, rfl, wa_nil (⟨Nat.le_of_ble_eq_true rfl, iz (z3 yS yS zI) (("TooMany" : Str), y37, y38), tr3, ⟨_, (le_X (r := (z3 yS yS zI))), ⟨rfl, rfl⟩⟩⟩)⟩)))⟩))))))), fun _ => We.conv (we_tup (wa_cons (we_cSy (z := "wrong") (asc_of (by decide)) (by decide) (wa_nil (⟨Nat.le_of_ble_eq_true rfl, iz (z1 yS) ("wrong" : Str), tr1, ⟨_, (le_X (r := (z1 yS))), ⟨rfl, rfl⟩⟩⟩))))), ?_⟩⟩
        exact hret _ p_law_made h _ _ (permD 0 _)
      | _ => exact (show False from h).elim
    obtain ⟨g42, h⟩ := h
    refine ⟨_, rfl, rfl, g42, ?_⟩
    try dsimp only
    refine kn_ret (We.conv (we_tup (wa_cons (we_cSy (z := "ok") (asc_of (by decide)) (by decide) (wa_nil (⟨Nat.le_of_ble_eq_true rfl, iz (z1 yS) ("ok" : Str), tr1, ⟨_, (le_X (r := (z1 yS))), ?_⟩⟩))))))
    exact hret _ (p_law_made ++ [v23]) h _ _ (permD 0 _)
abbrev s__law_asked : Stmt := topS 55
theorem sc__law_asked : FnScope ["_law_box_here", "_law_plan_here", "_law_rows", "_law_stretching", "_law_words_here", "_law_place", "_law_word_here", "_law_name", "_law_made", "_law_told_here", "_law_built", "_law_row"] ["_law_box_here", "_law_plan_here", "_law_rows", "_law_stretching"] (defScope s__law_asked) := ⟨rfl, rfl, rfl, by decide +kernel, rfl, by decide +kernel, by decide +kernel⟩
def m__law_asked (p_law_plan_here : PlanD) (p_law_rows : ((List (Str × Int)) × (List (Str × (List Str) × (List Str))))) (p_law_stretching : Bool) : DM (Option (PlanD × ((List (Str × Int)) × (List (Str × (List Str) × (List Str)))))) := fun Q X =>
  ∀ words3, words3 = ((p_law_rows.1).map fun x1 => x1.1) →
  m__law_old words3 (fun v4 =>
  m__law_new words3 (fun v5 =>
  ∀ name6, name6 = (none : (Option Str)) →
  joinD (fun j8 =>
  ifD p_law_stretching (
  m__law_new ((p_law_rows.2).map fun x9 => x9.1) (fun v11 =>
  ∀ name12, name12 = (some v11) →
  j8 name12) noX) (
  j8 name6)) (fun s7 : (Option Str) =>
  m__law_told p_law_plan_here v4 v5 s7 ([]) (fun r14 =>
  m__law_is_plan p_law_plan_here p_law_rows (fun v15 =>
  ifD (!v15) (
  Q (none : (Option (PlanD × ((List (Str × Int)) × (List (Str × (List Str) × (List Str)))))))) (
  ifD (!decide (v4 ∈ words3)) (
  Q (bif ((xeq r14.1 (XDat.enc (r := (z2 yS yS)) (("UnknownName" : Str), v4))) && (r14.2).isEmpty) then (some (p_law_plan_here, p_law_rows)) else (none : (Option (PlanD × ((List (Str × Int)) × (List (Str × (List Str) × (List Str))))))))) (
  joinD (fun j17 =>
  ifD p_law_stretching (
  ∃ zv18, s7 = some zv18 ∧
  m__law_stretched p_law_rows v4 v5 zv18 (fun v19 =>
  j17 v19) noX) (
  m__law_twinned p_law_rows v4 v5 (fun v20 =>
  j17 v20) noX)) (fun s16 : ((List (Str × Int)) × (List (Str × (List Str) × (List Str)))) =>
  m__law_built_due s16 (fun v21 =>
  ifD (!xeq r14.1 v21) (
  Q (none : (Option (PlanD × ((List (Str × Int)) × (List (Str × (List Str) × (List Str)))))))) (
  ifD (!xeq r14.1 (XDat.enc (r := (z1 yS)) ("ok" : Str))) (
  Q (bif (r14.2).isEmpty then (some (p_law_plan_here, p_law_rows)) else (none : (Option (PlanD × ((List (Str × Int)) × (List (Str × (List Str) × (List Str))))))))) (
  ∃ v22, atI r14.2 (0 : Int) = some v22 ∧
  m__law_is_plan v22 s16 (fun v23 =>
  orD (!v23) (fun k25 => ∃ v26, atI r14.2 (0 : Int) = some v26 ∧
  m__law_plan s16 (fun v27 =>
  m_Plan___eq__ v26 v27 (fun v28 =>
  k25 (!v28)) noX) noX) (fun c24 =>
  ifD c24 (
  Q (none : (Option (PlanD × ((List (Str × Int)) × (List (Str × (List Str) × (List Str)))))))) (
  ∃ v29, atI r14.2 (0 : Int) = some v29 ∧
  Q (some (v29, s16))))) noX))) noX)))) noX) noX)) noX) noX
theorem ok__law_asked {k : Nat} {cs : EK → Addr} {C : Addr} (B : Bl mg) (D__law_old : Def P w K mg base CX0 (k + 1) "_law_old" ["_law_box_here", "_law_used"] (spC (preKN 2 (preBW (fun x : (List Str) => [iz (yL yS) x]) yS (fun x => m__law_old x))))) (D__law_new : Def P w K mg base CX0 (k + 1) "_law_new" ["_law_box_here", "_law_used"] (spC (preKN 2 (preBW (fun x : (List Str) => [iz (yL yS) x]) yS (fun x => m__law_new x))))) (D__law_told : Def P w K mg base CX0 (k + 1) "_law_told" ["_law_plan_here", "_law_place", "_law_word_here", "_law_name", "_law_made"] (spC (preL (erW cs) (fun (as : List Addr) (x : PlanD × Str × Str × (Option Str) × (List PlanD)) => [iz (zPlan C) x.1, iz yS x.2.1, iz yS x.2.2.1, iz (yO yS) x.2.2.2.1, zAt (ad as 0)]) (fun (as : List Addr) (x : PlanD × Str × Str × (Option Str) × (List PlanD)) => [cY (ad as 0) (zPlan C) x.2.2.2.2]) yX (fun (as : List Addr) (x : PlanD × Str × Str × (Option Str) × (List PlanD)) (g : (List PlanD)) => [cY (ad as 0) (zPlan C) g]) (fun x : PlanD × Str × Str × (Option Str) × (List PlanD) => m__law_told x.1 x.2.1 x.2.2.1 x.2.2.2.1 x.2.2.2.2)))) (D__law_is_plan : Def P w K mg base CX0 (k + 1) "_law_is_plan" ["_law_plan_here", "_law_rows"] (spA (preW (erW cs) (fun x : PlanD × ((List (Str × Int)) × (List (Str × (List Str) × (List Str)))) => [iz (zPlan C) x.1, iz (z2 (yL (z2 yS zI)) (yL (z3 yS (yL yS) (yL yS)))) x.2]) zB (fun x => m__law_is_plan x.1 x.2)))) (D__law_stretched : Def P w K mg base CX0 (k + 1) "_law_stretched" ["_law_rows", "_law_place", "_law_word_here", "_law_name"] (spA (preW (erW cs) (fun x : ((List (Str × Int)) × (List (Str × (List Str) × (List Str)))) × Str × Str × Str => [iz (z2 (yL (z2 yS zI)) (yL (z3 yS (yL yS) (yL yS)))) x.1, iz yS x.2.1, iz yS x.2.2.1, iz yS x.2.2.2]) (z2 (yL (z2 yS zI)) (yL (z3 yS (yL yS) (yL yS)))) (fun x => m__law_stretched x.1 x.2.1 x.2.2.1 x.2.2.2)))) (D__law_twinned : Def P w K mg base CX0 (k + 1) "_law_twinned" ["_law_rows", "_law_place", "_law_word_here"] (spA (preW (erW cs) (fun x : ((List (Str × Int)) × (List (Str × (List Str) × (List Str)))) × Str × Str => [iz (z2 (yL (z2 yS zI)) (yL (z3 yS (yL yS) (yL yS)))) x.1, iz yS x.2.1, iz yS x.2.2]) (z2 (yL (z2 yS zI)) (yL (z3 yS (yL yS) (yL yS)))) (fun x => m__law_twinned x.1 x.2.1 x.2.2)))) (D__law_built_due : Def P w K mg base CX0 (k + 1) "_law_built_due" ["_law_rows"] (spA (preW (erW cs) (fun x : ((List (Str × Int)) × (List (Str × (List Str) × (List Str)))) => [iz (z2 (yL (z2 yS zI)) (yL (z3 yS (yL yS) (yL yS)))) x]) yX (fun x => m__law_built_due x)))) (D__law_plan : Def P w K mg base CX0 (k + 1) "_law_plan" ["_law_rows"] (spA (preW (erW cs) (fun x : ((List (Str × Int)) × (List (Str × (List Str) × (List Str)))) => [iz (z2 (yL (z2 yS zI)) (yL (z3 yS (yL yS) (yL yS)))) x]) (zPlan C) (fun x => m__law_plan x)))) (CC_Plan : CmpC K C) (NC_Plan : NeC K C) (DMk_Plan___eq__ : DefM P w K mg base CX0 k C "__eq__" ["self", "other"] (spA (preW (erW cs) (fun x : PlanD × PlanD => [iz (zPlan C) x.1, iz (zPlan C) x.2]) zB (fun x => m_Plan___eq__ x.1 x.2))))
    (F : Src K mg "_law_asked" s__law_asked ["_law_box_here", "_law_plan_here", "_law_rows", "_law_stretching"]) : Def P w K mg base CX0 (k + 2) "_law_asked" ["_law_box_here", "_law_plan_here", "_law_rows", "_law_stretching"] (spC (preKN 6 (preBW (fun x : PlanD × ((List (Str × Int)) × (List (Str × (List Str) × (List Str)))) × Bool => [iz (zPlan C) x.1, iz (z2 (yL (z2 yS zI)) (yL (z3 yS (yL yS) (yL yS)))) x.2.1, iz zB x.2.2]) (yO (zLp (zPlan C) (z2 (yL (z2 yS zI)) (yL (z3 yS (yL yS) (yL yS)))))) (fun x => m__law_asked x.1 x.2.1 x.2.2)))) := by
  refine F.okKN sc__law_asked (fun _ => rfl) (fun f cdv A outer s H E b l n x Q hN hr h => ⟨_, (pss_cons (ps_setLc (i := 4) (own := [("_law_row", 11)]) (g := gName 11) (by rfl) sc__law_asked.nd rfl rfl (sw_true rfl rfl rfl (by decide +kernel)) (kpi_list (K := K) (pe_ix (kix_tup (K := K)) (pv 2) pe_int (fun _ _ => rfl))) (blkOk_by (N := ["_law_box_here", "_law_plan_here", "_law_rows", "_law_stretching", "_law_words_here", "_law_place", "_law_word_here", "_law_name", "_law_made", "_law_told_here", "_law_built", "_law_row"]) (sc := defScope s__law_asked) (by decide +kernel)) (fun _ _ _ _ _ => (pg_name (i := 11) sc__law_asked.nd rfl (Or.inl rfl))) (fun _ _ _ _ _ => pts_nil) (fun _ _ _ _ _ => (pe_ix (kix_tup (K := K)) (pv 11) pe_int (fun _ _ => rfl))))
 (pss_cons (ps_asg (pe_def D__law_old hr pass0 (pa_cons (pv 0) (pa_cons (pv 4) pa_nil))) (pg_name (i := 5) sc__law_asked.nd rfl (Or.inl rfl)))
 (pss_cons (ps_asg (pe_def D__law_new hr pass0 (pa_cons (pv 0) (pa_cons (pv 4) pa_nil))) (pg_name (i := 6) sc__law_asked.nd rfl (Or.inl rfl)))
 (pss_cons (ps_asg pe_non (pg_name (i := 7) sc__law_asked.nd rfl (Or.inl rfl)))
 (C8.pss_cut (ps_if (pt_val (pv 3)) (pss_one (ps_asg (pe_def D__law_new hr pass0 (pa_cons (pv 0) (pa_cons (pe_lc (own := [("_law_row", 11)]) (g := gName 11) (by rfl) sc__law_asked.nd (kpi_list (K := K) (pe_ix (kix_tup (K := K)) (pv 2) pe_int (fun _ _ => rfl))) (blkOk_by (N := ["_law_box_here", "_law_plan_here", "_law_rows", "_law_stretching", "_law_words_here", "_law_place", "_law_word_here", "_law_name", "_law_made", "_law_told_here", "_law_built", "_law_row"]) (sc := defScope s__law_asked) (by decide +kernel)) (fun _ _ _ _ _ => (pg_name (i := 11) sc__law_asked.nd rfl (Or.inl rfl))) (fun _ _ _ _ _ => pts_nil) (fun _ _ _ _ _ => (pe_ix (kix_tup (K := K)) (pv 11) pe_int (fun _ _ => rfl)))) pa_nil))) (pg_name (i := 7) sc__law_asked.nd rfl (Or.inl rfl)))) pss_nil)
 (pss_cons (ps_asg (pe_lst pa_nil) (pg_name (i := 8) sc__law_asked.nd rfl (Or.inl rfl)))
 (pss_cons (ps_asg (pe_def D__law_told hr pass0 (pa_cons (pv 1) (pa_cons (pv 5) (pa_cons (pv 6) (pa_cons (pv 7) (pa_cons (pv 8) pa_nil)))))) (pg_name (i := 9) sc__law_asked.nd rfl (Or.inl rfl)))
 (pss_cons (ps_if (pt_not (pt_val (pe_def D__law_is_plan hr pass0 (pa_cons (pv 1) (pa_cons (pv 2) pa_nil))))) (pss_one (ps_ret pe_non)) pss_nil)
 (pss_cons (ps_if (pt_cmpR (kop_notIn (K := K)) (pv 5) (pv 4) rfl) (pss_one (ps_ret (pe_ifExp (PW.pt (pw_and (pt_cmpR (kop_eqD (K := K) hr.units) (pv 9) (pe_tup (pa_cons pe_str (pa_cons (pv 5) pa_nil))) (nomark _)) (pw_and1 (pt_cmpR (kop_eqNil (K := K) (Nat.lt_of_le_of_lt (Nat.le_add_right _ 64) hr.units)) (pv 8) (pe_lst pa_nil) (nomark _))))) (pe_lst (pa_cons (pv 1) (pa_cons (pv 2) pa_nil))) pe_non))) pss_nil)
 (C8.pss_cut (ps_if (pt_val (pv 3)) (pss_one (ps_asg (pe_def D__law_stretched hr pass0 (pa_cons (pv 2) (pa_cons (pv 5) (pa_cons (pv 6) (pa_cons (pv 7) pa_nil))))) (pg_name (i := 10) sc__law_asked.nd rfl (Or.inl rfl)))) (pss_one (ps_asg (pe_def D__law_twinned hr pass0 (pa_cons (pv 2) (pa_cons (pv 5) (pa_cons (pv 6) pa_nil)))) (pg_name (i := 10) sc__law_asked.nd rfl (Or.inl rfl)))))
 (pss_cons (ps_if (pt_cmpR (kop_neD (K := K) hr.units) (pv 9) (pe_def D__law_built_due hr pass0 (pa_cons (pv 10) pa_nil)) (nomark _)) (pss_one (ps_ret pe_non)) pss_nil)
 (pss_cons (ps_if (pt_cmpR (kop_neD (K := K) hr.units) (pv 9) (pe_tup (pa_cons pe_str pa_nil)) (nomark _)) (pss_one (ps_ret (pe_ifExp (pt_cmpR (kop_eqNil (K := K) (Nat.lt_of_le_of_lt (Nat.le_add_right _ 64) hr.units)) (pv 8) (pe_lst pa_nil) (nomark _)) (pe_lst (pa_cons (pv 1) (pa_cons (pv 2) pa_nil))) pe_non))) pss_nil)
 (pss_cons (ps_if (PW.pt (pw_or (pt_not (pt_val (pe_def D__law_is_plan hr pass0 (pa_cons (pe_ix (kix_list (K := K)) (pv 8) pe_int (fun _ _ => rfl)) (pa_cons (pv 10) pa_nil))))) (pw_or1 (pt_cmp (pc_ne2 DMk_Plan___eq__ CC_Plan NC_Plan hr passAt0 (pe_ix (kix_list (K := K)) (pv 8) pe_int (fun _ _ => rfl)) (pe_def D__law_plan hr pass0 (pa_cons (pv 10) pa_nil))))))) (pss_one (ps_ret pe_non)) pss_nil)
 (pss_one (ps_ret (pe_lst (pa_cons (pe_ix (kix_list (K := K)) (pv 8) pe_int (fun _ _ => rfl)) (pa_cons (pv 10) pa_nil)))))))))))))))))), fun fr Qv hret => ?_⟩)
  obtain ⟨p_law_plan_here, p_law_rows, p_law_stretching⟩ := x
  replace h : m__law_asked p_law_plan_here p_law_rows p_law_stretching Q noX := h
  unfold m__law_asked at h
  refine kn_seq (kn_asgL (i := 4) (r := (yL yS)) (we_lcM0 (r := (z2 yS zI)) (s := yS) (wi_yL (we_op (we_var rfl (we_cI (ops_ix20 (⟨_, _, _, rfl, fun e2 => ⟨_, fun x1 => x1.1, _, rfl, rfl, e2, fun x1 => tg_name, fun x1 c => we_op (we_var rfl (we_cI (ops_ix20 (⟨rfl, rfl⟩)))), ⟨_, rfl, fun words3 ewords3 => ?_⟩⟩⟩))))))))
  have h := h words3 ewords3
  refine kn_nrm (Γ' := [some (zAt b), some (iz (zPlan C) p_law_plan_here), some (iz (z2 (yL (z2 yS zI)) (yL (z3 yS (yL yS) (yL yS)))) p_law_rows), some (iz zB p_law_stretching), some (iz (yL yS) words3), none, none, none, none, none, none, none]) rfl ?_
  try dsimp only
  refine kn_seq (kn_asg (i := 5) (we_callE (wa_cons (we_var rfl (wa_cons (we_var rfl (wa_nil ?_)))))))
  refine sps_KN (j := 0) rfl (by have hb : big = 100000 := rfl; omega) words3 h (fun v4 h => ?_)
  try dsimp only [List.set]
  refine kn_nrm (Γ' := [some (zAt b), some (iz (zPlan C) p_law_plan_here), some (iz (z2 (yL (z2 yS zI)) (yL (z3 yS (yL yS) (yL yS)))) p_law_rows), some (iz zB p_law_stretching), some (iz (yL yS) words3), some (iz yS v4), none, none, none, none, none, none]) rfl ?_
  try dsimp only
  refine kn_seq (kn_asg (i := 6) (we_callE (wa_cons (we_var rfl (wa_cons (we_var rfl (wa_nil ?_)))))))
  refine sps_KN (j := 0) rfl (by have hb : big = 100000 := rfl; omega) words3 h (fun v5 h => ?_)
  try dsimp only [List.set]
  refine kn_nrm (Γ' := [some (zAt b), some (iz (zPlan C) p_law_plan_here), some (iz (z2 (yL (z2 yS zI)) (yL (z3 yS (yL yS) (yL yS)))) p_law_rows), some (iz zB p_law_stretching), some (iz (yL yS) words3), some (iz yS v4), some (iz yS v5), none, none, none, none, none]) rfl ?_
  try dsimp only
  refine kn_seq (kn_asgL (i := 7) (r := (yO yS)) (We.conv (we_cNy (⟨_, (le_On (r := yS)), ⟨_, rfl, fun name6 ename6 => ?_⟩⟩))))
  have h := h name6 ename6
  refine kn_nrm (Γ' := [some (zAt b), some (iz (zPlan C) p_law_plan_here), some (iz (z2 (yL (z2 yS zI)) (yL (z3 yS (yL yS) (yL yS)))) p_law_rows), some (iz zB p_law_stretching), some (iz (yL yS) words3), some (iz yS v4), some (iz yS v5), some (iz (yO yS) name6), none, none, none, none]) rfl ?_
  try dsimp only
  refine kn_cutK (S := (Option Str)) (fun s7 => [some (zAt b), some (iz (zPlan C) p_law_plan_here), some (iz (z2 (yL (z2 yS zI)) (yL (z3 yS (yL yS) (yL yS)))) p_law_rows), some (iz zB p_law_stretching), some (iz (yL yS) words3), some (iz yS v4), some (iz yS v5), some (iz (yO yS) s7), none, none, none, none]) (fun s7 => [cBagC (((n + 2) + 2) + 2) b l]) h (fun M hjn h => ?_) (fun s7 h => ?_)
  · refine kn_if (wt_b (we_var rfl (⟨_, rfl, ⟨fun hc => ?_, fun hc => ?_⟩⟩)))
    · have h := h.1 hc
      refine kn_asgL (i := 7) (r := (yO yS)) (We.conv (we_callE (wa_cons (we_var rfl (wa_cons (we_lcM0 (r := (z3 yS (yL yS) (yL yS))) (s := yS) (wi_yL (we_op (we_var rfl (we_cI (ops_ix21 (⟨_, _, _, rfl, fun e10 => ⟨_, fun x9 => x9.1, _, rfl, rfl, e10, fun x9 => tg_name, fun x9 c => we_op (we_var rfl (we_cI (ops_ix30 (⟨rfl, rfl⟩)))), wa_nil ?_⟩⟩))))))))))))
      refine sps_KN (j := 0) rfl (by have hb : big = 100000 := rfl; omega) ((p_law_rows.2).map fun x9 => x9.1) h (fun v11 h => ?_)
      try dsimp only [List.set]
      refine ⟨_, le_Os, ⟨_, rfl, fun name12 ename12 => ?_⟩⟩
      have h := h name12 ename12
      exact hjn name12 _ _ h (by and_intros) (.cons (.bag (by have hb : big = 100000 := rfl; omega)) (.nil))
    · have h := h.2 hc
      refine kn_next ?_
      exact hjn name6 _ _ h (by and_intros) (.cons (.bag (by have hb : big = 100000 := rfl; omega)) (.nil))
  try dsimp only
  refine kn_seq (kn_asg (i := 8) (we_ownY (zPlan C) (wa_nil (⟨[], rfl, Nat.le_of_ble_eq_true rfl, fun a13 => ?_⟩))))
  refine kn_nrm (Γ' := [some (zAt b), some (iz (zPlan C) p_law_plan_here), some (iz (z2 (yL (z2 yS zI)) (yL (z3 yS (yL yS) (yL yS)))) p_law_rows), some (iz zB p_law_stretching), some (iz (yL yS) words3), some (iz yS v4), some (iz yS v5), some (iz (yO yS) s7), some (zAt a13), none, none, none]) rfl ?_
  try dsimp only
  refine kn_seq (kn_asg (i := 9) (we_callE (wa_cons (we_var rfl (wa_cons (we_var rfl (wa_cons (we_var rfl (wa_cons (We.conv (we_var rfl (⟨_, Vp.Le.refl _, wa_cons (we_var rfl (wa_nil ?_))⟩))))))))))))
  refine sps_LP0 [a13] (p_law_plan_here, v4, v5, s7, []) (fun g => [cY a13 (zPlan C) g, cBagC (((n + 2) + 2) + 2) b l]) ((perm_at (j := 0) rfl).trans (.cons _ (.refl _))) (fun g => (perm_at (j := 0) rfl).trans (.cons _ (.refl _))) h (fun r14 h => ?_)
  try dsimp only
  refine kn_nrm (Γ' := [some (zAt b), some (iz (zPlan C) p_law_plan_here), some (iz (z2 (yL (z2 yS zI)) (yL (z3 yS (yL yS) (yL yS)))) p_law_rows), some (iz zB p_law_stretching), some (iz (yL yS) words3), some (iz yS v4), some (iz yS v5), some (iz (yO yS) s7), some (zAt a13), some (iz yX r14.1), none, none]) rfl ?_
  try dsimp only
  refine kn_seq (kn_if (wt_not (wt_b (we_callE (wa_cons (we_var rfl (wa_cons (we_var rfl (wa_nil ?_)))))))))
  refine sps_W0 (p_law_plan_here, p_law_rows) h (fun v15 h => ?_)
  refine ⟨_, rfl, ⟨fun hc => ?_, fun hc => ?_⟩⟩
  · have h := h.1 hc
    refine kn_ret (We.conv (we_cNy (⟨_, (le_On (r := (zLp (zPlan C) (z2 (yL (z2 yS zI)) (yL (z3 yS (yL yS) (yL yS))))))), ?_⟩)))
    exact hret _ h _ _ (by have hb : big = 100000 := rfl; omega) (List.mem_of_getElem? (i := 1) rfl)
  · have h := h.2 hc
    refine kn_next ?_
    try dsimp only
    refine kn_seq (kn_if (wt_test (we_op (we_var rfl (we_var rfl (oy_ninS sy_L (⟨_, rfl, ⟨fun hc => ?_, fun hc => ?_⟩⟩)))))))
    · have h := h.1 hc
      refine kn_frzY (i := 8) (j := 0) rfl rfl ?_
      refine kn_ret (we_ifP (r := (yO (zLp (zPlan C) (z2 (yL (z2 yS zI)) (yL (z3 yS (yL yS) (yL yS))))))) (wt_andP (wt_test (we_op (we_var rfl (We.conv (we_tup (wa_cons (we_cSy (z := "UnknownName") (asc_of (by decide)) (by decide) (wa_cons (we_var rfl (wa_nil (⟨Nat.le_of_ble_eq_true rfl, iz (z2 yS yS) (("UnknownName" : Str), v4), tr2, ⟨_, (le_X (r := (z2 yS yS))), oy_eqX (r := yX) (by decide) (⟨_, rfl, ⟨_, fun _ => wt_test (we_op (we_var rfl (we_lstY (r := zI) (wa_nil (⟨[], rfl, Nat.le_of_ble_eq_true rfl, oy_eqNil (⟨_, rfl, ⟨rfl, rfl⟩⟩)⟩))))), ⟨_, _, fun _ => We.conv (we_lstp (r := (zPlan C)) (s := (z2 (yL (z2 yS zI)) (yL (z3 yS (yL yS) (yL yS))))) (wa_cons (we_var rfl (wa_cons (we_var rfl (wa_nil (⟨_, _, rfl, ⟨_, le_Os, ⟨rfl, rfl⟩⟩⟩))))))), fun _ => We.conv (we_cNy (⟨_, (le_On (r := (zLp (zPlan C) (z2 (yL (z2 yS zI)) (yL (z3 yS (yL yS) (yL yS))))))), ⟨rfl, rfl⟩⟩)), ?_⟩⟩⟩)⟩⟩)))))))))))))
      exact hret _ h _ _ (by have hb : big = 100000 := rfl; omega) (List.mem_of_getElem? (i := 0) rfl)
    · have h := h.2 hc
      refine kn_next ?_
      try dsimp only
      refine kn_cutW (S := ((List (Str × Int)) × (List (Str × (List Str) × (List Str))))) (fun s16 => [some (zAt b), some (iz (zPlan C) p_law_plan_here), some (iz (z2 (yL (z2 yS zI)) (yL (z3 yS (yL yS) (yL yS)))) p_law_rows), some (iz zB p_law_stretching), some (iz (yL yS) words3), some (iz yS v4), some (iz yS v5), some (iz (yO yS) s7), some (zAt a13), some (iz yX r14.1), some (iz (z2 (yL (z2 yS zI)) (yL (z3 yS (yL yS) (yL yS)))) s16), none]) (fun s16 => [cY a13 (zPlan C) r14.2, cBagC (((n + 2) + 2) + 2) b l]) h (fun M hjn h => ?_) (fun s16 h => ?_)
      · refine kn_if (wt_b (we_var rfl (⟨_, rfl, ⟨fun hc => ?_, fun hc => ?_⟩⟩)))
        · have h := h.1 hc
          refine kn_asg (i := 10) (we_callE (wa_cons (we_var rfl (wa_cons (we_var rfl (wa_cons (we_var rfl (wa_cons (We.conv (we_var rfl ?_))))))))))
          obtain ⟨zv18, ezv18, h⟩ := h
          refine ⟨_, le_Oz ezv18, wa_nil ?_⟩
          refine sps_W0 (p_law_rows, v4, v5, zv18) h (fun v19 h => ?_)
          exact hjn v19 _ _ h (by and_intros) rfl
        · have h := h.2 hc
          refine kn_asg (i := 10) (we_callE (wa_cons (we_var rfl (wa_cons (we_var rfl (wa_cons (we_var rfl (wa_nil ?_))))))))
          refine sps_W0 (p_law_rows, v4, v5) h (fun v20 h => ?_)
          exact hjn v20 _ _ h (by and_intros) rfl
      try dsimp only
      refine kn_seq (kn_if (wt_test (we_op (we_var rfl (we_callE (wa_cons (we_var rfl (wa_nil ?_))))))))
      refine sps_W0 s16 h (fun v21 h => ?_)
      refine oy_neX (r := yX) (by decide) (⟨_, rfl, ⟨fun hc => ?_, fun hc => ?_⟩⟩)
      · have h := h.1 hc
        refine kn_ret (We.conv (we_cNy (⟨_, (le_On (r := (zLp (zPlan C) (z2 (yL (z2 yS zI)) (yL (z3 yS (yL yS) (yL yS))))))), ?_⟩)))
        exact hret _ h _ _ (by have hb : big = 100000 := rfl; omega) (List.mem_of_getElem? (i := 1) rfl)
      · have h := h.2 hc
        refine kn_next ?_
        try dsimp only
        refine kn_seq (kn_if (wt_test (we_op (we_var rfl (We.conv (we_tup (wa_cons (we_cSy (z := "ok") (asc_of (by decide)) (by decide) (wa_nil (⟨Nat.le_of_ble_eq_true rfl, iz (z1 yS) ("ok" : Str), tr1, ⟨_, (le_X (r := (z1 yS))), oy_neX (r := yX) (by decide) (⟨_, rfl, ⟨fun hc => ?_, fun hc => ?_⟩⟩)⟩⟩))))))))))
        · have h := h.1 hc
          refine kn_frzY (i := 8) (j := 0) rfl rfl ?_
          refine kn_ret (we_ifP (r := (yO (zLp (zPlan C) (z2 (yL (z2 yS zI)) (yL (z3 yS (yL yS) (yL yS))))))) (wt_test (we_op (we_var rfl (we_lstY (r := zI) (wa_nil (⟨[], rfl, Nat.le_of_ble_eq_true rfl, oy_eqNil (⟨_, rfl, ⟨_, _, fun _ => We.conv (we_lstp (r := (zPlan C)) (s := (z2 (yL (z2 yS zI)) (yL (z3 yS (yL yS) (yL yS))))) (wa_cons (we_var rfl (wa_cons (we_var rfl (wa_nil (⟨_, _, rfl, ⟨_, le_Os, ⟨rfl, rfl⟩⟩⟩))))))), fun _ => We.conv (we_cNy (⟨_, (le_On (r := (zLp (zPlan C) (z2 (yL (z2 yS zI)) (yL (z3 yS (yL yS) (yL yS))))))), ⟨rfl, rfl⟩⟩)), ?_⟩⟩)⟩)))))))
          exact hret _ h _ _ (by have hb : big = 100000 := rfl; omega) (List.mem_of_getElem? (i := 0) rfl)
        · have h := h.2 hc
          refine kn_next ?_
          try dsimp only
          refine kn_seq (kn_if (wt_orC (wt_not (wt_b (we_callE (wa_cons (we_op (we_var rfl (we_cI ?_)))))))))
          obtain ⟨v22, ev22, h⟩ := h
          refine oy_ixC (j := 0) rfl ev22 (wa_cons (we_var rfl (wa_nil ?_)))
          refine sps_W0 (v22, s16) h (fun v23 h => ?_)
          refine ⟨_, rfl, ?_⟩
          refine orK h (fun h => ?_) (fun c24 h => ?_)
          · refine wt_test (we_ne2 (we_op (we_var rfl (we_cI ?_))))
            obtain ⟨v26, ev26, h⟩ := h
            refine oy_ixC (j := 0) rfl ev26 (we_callE (wa_cons (we_var rfl (wa_nil ?_))))
            refine sps_W0 s16 h (fun v27 h => ?_)
            refine ⟨InsP.c (ins_plan (m := "__contains__") rfl), rg_C (InsP.c (ins_plan (m := "__contains__") rfl)), ?_⟩
            refine sps_W0 (v26, v27) h (fun v28 h => ?_)
            refine ⟨_, rfl, ⟨_, rfl, ?_⟩⟩
            exact ⟨rfl, h⟩
          refine ⟨fun hc => ?_, fun hc => ?_⟩
          · have h := h.1 hc
            refine kn_ret (We.conv (we_cNy (⟨_, (le_On (r := (zLp (zPlan C) (z2 (yL (z2 yS zI)) (yL (z3 yS (yL yS) (yL yS))))))), ?_⟩)))
            exact hret _ h _ _ (by have hb : big = 100000 := rfl; omega) (List.mem_of_getElem? (i := 1) rfl)
          · have h := h.2 hc
            refine kn_next ?_
            try dsimp only
            refine kn_ret (We.conv (we_lstp (r := (zPlan C)) (s := (z2 (yL (z2 yS zI)) (yL (z3 yS (yL yS) (yL yS))))) (wa_cons (we_op (we_var rfl (we_cI ?_))))))
            obtain ⟨v29, ev29, h⟩ := h
            refine oy_ixC (j := 0) rfl ev29 (wa_cons (we_var rfl (wa_nil (⟨_, _, rfl, ⟨_, le_Os, ?_⟩⟩))))
            exact hret _ h _ _ (by have hb : big = 100000 := rfl; omega) (List.mem_of_getElem? (i := 1) rfl)
abbrev s_law : Stmt := topS 56
theorem sc_law : FnScope ["_law_script", "_law_box_here", "_law_rows", "_law_now", "_law_turn"] ["_law_script"] (defScope s_law) := ⟨rfl, rfl, rfl, by decide +kernel, rfl, by decide +kernel, by decide +kernel⟩
def m_law  : DM Bool := fun Q X =>
  joinD (fun j2 =>
  m_draw (2 : Int) (fun v3 =>
  ifD (decide (v3 = (0 : Int))) (
  m__law_any (12 : Int) (16 : Int) (fun v4 =>
  j2 v4) noX) (
  m__law_grown (3 : Int) (fun v5 =>
  j2 v5) noX)) noX) (fun s1 : ((List (Str × Int)) × (List (Str × (List Str) × (List Str)))) =>
  m__law_plan s1 (fun v6 =>
  ∀ now7, now7 = (some (v6, s1)) →
  forD (intsF 0 ((4 : Int)).toNat) now7 (fun x9 s8 nx bk =>
  ∃ zv11, s8 = some zv11 ∧
  ∃ zv12, s8 = some zv12 ∧
  m_draw (2 : Int) (fun v13 =>
  m__law_asked zv11.1 zv12.2 (decide (v13 = (0 : Int))) (fun v14 =>
  optD v14 (Q false) (fun now15 =>
  nx (some now15))) noX) noX) (fun s8 =>
  Q true)) noX)
theorem ok_law {k : Nat} {cs : EK → Addr} {C : Addr} (B : Bl mg) (D__law_draw : Def P w K mg base CX0 (k + 1) "_law_draw" ["_law_box_here", "_law_limit"] (spC (preKN 1 (preBW (fun x : Int => [iz zI x]) zI m_draw)))) (D__law_any : Def P w K mg base CX0 (k + 1) "_law_any" ["_law_box_here", "_law_most_places", "_law_most_steps"] (spC (preKN 700002 (preBW (fun x : Int × Int => [iz zI x.1, iz zI x.2]) (z2 (yL (z2 yS zI)) (yL (z3 yS (yL yS) (yL yS)))) (fun x => m__law_any x.1 x.2))))) (D__law_grown : Def P w K mg base CX0 (k + 1) "_law_grown" ["_law_box_here", "_law_most"] (spC (preKN 900005 (preBW (fun x : Int => [iz zI x]) (z2 (yL (z2 yS zI)) (yL (z3 yS (yL yS) (yL yS)))) (fun x => m__law_grown x))))) (D__law_plan : Def P w K mg base CX0 (k + 1) "_law_plan" ["_law_rows"] (spA (preW (erW cs) (fun x : ((List (Str × Int)) × (List (Str × (List Str) × (List Str)))) => [iz (z2 (yL (z2 yS zI)) (yL (z3 yS (yL yS) (yL yS)))) x]) (zPlan C) (fun x => m__law_plan x)))) (D__law_asked : Def P w K mg base CX0 (k + 1) "_law_asked" ["_law_box_here", "_law_plan_here", "_law_rows", "_law_stretching"] (spC (preKN 6 (preBW (fun x : PlanD × ((List (Str × Int)) × (List (Str × (List Str) × (List Str)))) × Bool => [iz (zPlan C) x.1, iz (z2 (yL (z2 yS zI)) (yL (z3 yS (yL yS) (yL yS)))) x.2.1, iz zB x.2.2]) (yO (zLp (zPlan C) (z2 (yL (z2 yS zI)) (yL (z3 yS (yL yS) (yL yS)))))) (fun x => m__law_asked x.1 x.2.1 x.2.2))))) (D__law_box : Def P w K mg base CX0 (k + 1) "_law_box" ["_law_script"] (spN (preBagC K)))
    {f : Addr} {fd : FuncData} (F : Fun K "law" "law" s_law f fd) (hm : m_law (· = true) noX) : FnOk P w K mg base CX0 (k + 2) f fd ["_law_script"] (spLaw K) := by
  refine F.ok sc_law (fun vs H Q E h => ?_) (fun cdv A outer s H vs Q E hr h => ?_)
  · obtain ⟨a, ns, rfl, _⟩ := h
    rfl
  obtain ⟨a, ns, rfl, hS, hlen, q⟩ := h
  refine ⟨_, (pss_cons (ps_asg (pe_def D__law_box hr pass0 (pa_cons (pv 0) pa_nil)) (pg_name (i := 1) sc_law.nd rfl (Or.inl rfl)))
 (C8.pss_cut (ps_if (pt_cmpR op_eq (pe_def D__law_draw hr pass0 (pa_cons (pv 1) (pa_cons pe_int pa_nil))) pe_int (nomark _)) (pss_one (ps_asg (pe_def D__law_any hr pass0 (pa_cons (pv 1) (pa_cons pe_int (pa_cons pe_int pa_nil)))) (pg_name (i := 2) sc_law.nd rfl (Or.inl rfl)))) (pss_one (ps_asg (pe_def D__law_grown hr pass0 (pa_cons (pv 1) (pa_cons pe_int pa_nil))) (pg_name (i := 2) sc_law.nd rfl (Or.inl rfl)))))
 (pss_cons (ps_asg (pe_lst (pa_cons (pe_def D__law_plan hr pass0 (pa_cons (pv 2) pa_nil)) (pa_cons (pv 2) pa_nil))) (pg_name (i := 3) sc_law.nd rfl (Or.inl rfl)))
 (pss_cons (ps_for PassesOwn.never rfl (pi_range1 (by rfl) B.range (pa_cons pe_int pa_nil)) (pg_name (i := 4) sc_law.nd rfl (Or.inl rfl)) (pss_cons (ps_asg (pe_def D__law_asked hr pass0 (pa_cons (pv 1) (pa_cons (pe_ix (kix_list (K := K)) (pv 3) pe_int (fun _ _ => rfl)) (pa_cons (pe_ix (kix_list (K := K)) (pv 3) pe_int (fun _ _ => rfl)) (pa_cons (pe_cmpR op_eq (pe_def D__law_draw hr pass0 (pa_cons (pv 1) (pa_cons pe_int pa_nil))) pe_int (nomark _)) pa_nil))))) (pg_name (i := 3) sc_law.nd rfl (Or.inl rfl)))
 (pss_one (ps_if (pt_cmpR op_isN (pv 3) pe_non (nomark _)) (pss_one (ps_ret pe_bl)) pss_nil))))
 (pss_one (ps_ret pe_bl)))))), ?_⟩
  have hret : ∀ {fr : L2.Fr} {Θ : List Cel} (c : Bool), c = true → Rt fr Θ Q (iz zB c) := fun {fr Θ} c hc v F' H' ok hv => by
    subst hc
    have hv : v = .bl true := hv
    subst hv
    exact q H'
  refine (?_ : ∀ fr, Kn fr (L2.envOf _ [iz (zScr K) ns]) [] _) ⟨H, H, []⟩ _ H H (OkF.start (Same.refl H)) (env_start (.cons ⟨a, rfl, hS, hlen⟩ .nil))
  intro fr
  refine kn_seq (kn_asg (we_callE (wa_cons (we_var rfl (wa_nil ?_)))))
  refine sps_N ⟨ns, rfl, rfl, rfl⟩ (fun p Θn ⟨b, l, e1, e2⟩ => ?_) (fun e he => he.elim)
  subst e1 e2
  try dsimp only
  have h := hm
  unfold m_law at h
  have hN : 0 + 1600006 ≤ LIM := by decide
  refine kn_cutK (S := ((List (Str × Int)) × (List (Str × (List Str) × (List Str))))) (fun s1 => [none, some (zAt b), some (iz (z2 (yL (z2 yS zI)) (yL (z3 yS (yL yS) (yL yS)))) s1), none, none]) (fun s1 => [cBagC (0 + 900006) b l]) h (fun M hjn h => ?_) (fun s1 h => ?_)
  · refine kn_if (wt_test (we_op (we_callE (wa_cons (we_var rfl (wa_cons (we_cI (wa_nil ?_))))))))
    refine sps_KN (j := 0) rfl (by have hb : big = 100000 := rfl; omega) (2 : Int) h (fun v3 h => ?_)
    try dsimp only [List.set]
    refine we_cI (ops_eqI (⟨_, rfl, ⟨fun hc => ?_, fun hc => ?_⟩⟩))
    · have h := h.1 hc
      refine kn_asg (i := 2) (we_callE (wa_cons (we_var rfl (wa_cons (we_cI (wa_cons (we_cI (wa_nil ?_))))))))
      refine sps_KN (j := 0) rfl (by have hb : big = 100000 := rfl; omega) ((12 : Int), (16 : Int)) h (fun v4 h => ?_)
      try dsimp only [List.set]
      exact hjn v4 _ _ h (by and_intros) (.cons (.bag (by have hb : big = 100000 := rfl; omega)) (.nil))
    · have h := h.2 hc
      refine kn_asg (i := 2) (we_callE (wa_cons (we_var rfl (wa_cons (we_cI (wa_nil ?_))))))
      refine sps_KN (j := 0) rfl (by have hb : big = 100000 := rfl; omega) (3 : Int) h (fun v5 h => ?_)
      try dsimp only [List.set]
      exact hjn v5 _ _ h (by and_intros) (.cons (.bag (by have hb : big = 100000 := rfl; omega)) (.nil))
  try dsimp only
  refine kn_seq (kn_asgL (i := 3) (r := (yO (zLp (zPlan C) (z2 (yL (z2 yS zI)) (yL (z3 yS (yL yS) (yL yS))))))) (We.conv (we_lstp (r := (zPlan C)) (s := (z2 (yL (z2 yS zI)) (yL (z3 yS (yL yS) (yL yS))))) (wa_cons (we_callE (wa_cons (we_var rfl (wa_nil ?_))))))))
  refine sps_W0 s1 h (fun v6 h => ?_)
  refine wa_cons (we_var rfl (wa_nil (⟨_, _, rfl, ⟨_, le_Os, ⟨_, rfl, fun now7 enow7 => ?_⟩⟩⟩)))
  have h := h now7 enow7
  try dsimp only
  refine kn_seq (kn_forK (r := zI) (S := (Option (PlanD × ((List (Str × Int)) × (List (Str × (List Str) × (List Str))))))) (fun s8 => [none, some (zAt b), some (iz (z2 (yL (z2 yS zI)) (yL (z3 yS (yL yS) (yL yS)))) s1), some (iz (yO (zLp (zPlan C) (z2 (yL (z2 yS zI)) (yL (z3 yS (yL yS) (yL yS)))))) s8), none]) (fun i s8 => [cBagC ((0 + 900006) + i * 7) b l]) (fun s8 => [cBagC ((0 + 900006) + 700000) b l]) now7 (wi_range (wa_cons (we_cI (wa_nil (⟨_, rfl, (by have hb : big = 100000 := rfl; omega), (by have hb : big = 100000 := rfl; omega), ⟨_, _, _, _, _, rfl, .cons (.bag (by have hb : big = 100000 := rfl; omega)) (.nil), (by and_intros), fun _ _ => tg_name, h, fun fr' le i10 x9 s8 nx M hi10 hnx hbk h => ?_, fun s8 => .cons (.bag (by have hb : big = 100000 := rfl; have hl : ((intsF 0 ((4 : Int)).toNat)).length ≤ big := (intsF_big (by have hb : big = 100000 := rfl; omega)); omega)) (.nil), fun s8 h => ?_⟩⟩))))))
  · replace hi10 := Nat.lt_of_lt_of_le hi10 (show _ ≤ 100000 from (intsF_big (by have hb : big = 100000 := rfl; omega)))
    refine kn_seq (kn_asg (i := 3) (We.conv (we_callE (wa_cons (we_var rfl (wa_cons (we_op (We.conv (we_var rfl ?_)))))))))
    obtain ⟨zv11, ezv11, h⟩ := h
    refine ⟨_, le_Oz ezv11, we_cI (oy_ixLp0 (wa_cons (we_op (We.conv (we_var rfl ?_)))))⟩
    obtain ⟨zv12, ezv12, h⟩ := h
    refine ⟨_, le_Oz ezv12, we_cI (oy_ixLp1 (wa_cons (we_op (we_callE (wa_cons (we_var rfl (wa_cons (we_cI (wa_nil ?_)))))))))⟩
    refine sps_KN (j := 0) rfl (by have hb : big = 100000 := rfl; omega) (2 : Int) h (fun v13 h => ?_)
    try dsimp only [List.set]
    refine we_cI (ops_eqI (wa_nil ?_))
    refine sps_KN (j := 0) rfl (by have hb : big = 100000 := rfl; omega) (zv11.1, zv12.2, (decide (v13 = (0 : Int)))) h (fun v14 h => ?_)
    try dsimp only [List.set]
    refine ⟨_, Vp.Le.refl _, ?_⟩
    try dsimp only
    refine kn_if (wt_test (we_op (we_var rfl (we_cNy (oy_isO (⟨_, rfl, optK h (fun enow15 h => ?_) (fun now15 enow15 h => ?_)⟩))))))
    · revert h; (first | subst enow15 | rw [enow15]); intro h
      refine kn_ret (we_cB ?_)
      exact hret _ h
    · revert h; (first | subst enow15 | rw [enow15]); intro h
      refine kn_next ?_
      exact hnx (some now15) _ _ h (by and_intros) (.cons (.bag (by have hb : big = 100000 := rfl; omega)) (.nil))
  try dsimp only
  refine kn_ret (we_cB ?_)
  exact hret _ h
end
section
theorem draw_ok {m : Int} {Q : Int → Prop} {X : HE → Prop} (h0 : 0 < m) (h1 : m ≤ 10 ^ 40) (h : ∀ n : Nat, (n : Int) < m → Q n) : m_draw m Q X := ⟨h0, h1, fun n n0 n1 => by
  obtain ⟨j, rfl⟩ : ∃ j : Nat, n = j := ⟨n.toNat, by omega⟩
  exact h j n1⟩
theorem pos_of_ne {α : Type} {l : List α} (h : l ≠ []) : 0 < l.length := by
  cases l with
  | nil => exact absurd rfl h
  | cons a l => exact Nat.succ_pos _
theorem lt_big {n : Nat} (h : n < 1000) : n < big := Nat.lt_trans h (by decide)
def SIG : List Nat := (("abcdefghijklmnopqrstuvwxyz0123456789" : Str)).cps.toList
theorem sig_len : SIG.length = 36 := by decide +kernel
theorem sig26 : ∀ j : Nat, j < 26 → (decide (SIG.getD j 0 ∈ LETTERS.cps.toList) && okc (SIG.getD j 0)) = true := by decide +kernel
theorem sig36 : ∀ j : Nat, j < 36 → okc (SIG.getD j 0) = true := by decide +kernel
theorem sig_at {j : Nat} (h : j < 36) : atI SIG (j : Int) = some (SIG.getD j 0) := by
  refine atI_nat ?_
  have : j < SIG.length := by rw [sig_len]; exact h
  rw [List.getD_eq_getElem?_getD, List.getElem?_eq_getElem this]
  rfl
theorem len_app (a b : Str) : (a ++ b).length = a.length + b.length := by
  show (a.cps ++ b.cps : Array Nat).size = _
  rw [Array.size_append]
  rfl
theorem cps_app (a b : Str) : (a ++ b).cps.toList = a.cps.toList ++ b.cps.toList := by
  show (a.cps ++ b.cps : Array Nat).toList = _
  simp
/-- the beginning of a word -/
structure Stem (n : Nat) (z : Str) : Prop where
  len : z.length ≤ n
  ex : ∃ c r, z.cps.toList = c :: r ∧ c ∈ LETTERS.cps.toList ∧ ∀ d ∈ c :: r, okc d = true
theorem Stem.app {n m : Nat} {z y : Str} (h : Stem n z) (hy : ∀ d ∈ y.cps.toList, okc d = true) (hl : y.length ≤ m) : Stem (n + m) (z ++ y) := by
  obtain ⟨c, r, e, h1, h2⟩ := h.ex
  refine ⟨by rw [len_app]; have := h.len; omega, c, r ++ y.cps.toList, by rw [cps_app, e]; rfl, h1, fun d hd => ?_⟩
  rw [← List.cons_append] at hd
  rcases List.mem_append.mp hd with q | q
  · exact h2 d q
  · exact hy d q
theorem Stem.isWd {n : Nat} {z : Str} (h : Stem n z) (hn : n ≤ 12) : Wd z := by
  obtain ⟨c, r, e, h1, h2⟩ := h.ex
  show wd z.cps.toList = true
  unfold L2.wd
  have hl : z.cps.toList.length ≤ 12 := Nat.le_trans h.len hn
  rw [e] at hl ⊢
  rw [Bool.and_eq_true, Bool.and_eq_true]
  exact ⟨decide_eq_true ⟨by rw [List.length_cons]; omega, hl⟩, decide_eq_true h1, List.all_eq_true.mpr h2⟩
theorem num_okc (n : Nat) : ∀ d ∈ (numS (n : Int)).cps.toList, okc d = true := fun d hd => by
  have e : (numS (n : Int)).cps.toList = TL.numL n := TL.tl_num n
  rw [e] at hd
  have h := TL.numL_digits n d hd
  have : ∀ d : Nat, 48 ≤ d → d ≤ 57 → okc d = true := by
    intro d h1 h2
    obtain ⟨j, rfl⟩ : ∃ j, d = 48 + j := ⟨d - 48, by omega⟩
    have hj : j < 10 := by omega
    have : ∀ j : Nat, j < 10 → okc (48 + j) = true := by decide +kernel
    exact this j hj
  exact this d (by omega) (by omega)
theorem num_lenN {n k : Nat} (hk : 0 < k) (h : n < 10 ^ k) : (numS (n : Int)).length ≤ k := by
  have e : (numS (n : Int)).cps.toList = TL.numL n := TL.tl_num n
  show (numS (n : Int)).cps.toList.length ≤ k
  rw [e]
  exact TL.numL_len hk h
theorem num_inj {m n : Nat} (h : numS (m : Int) = numS (n : Int)) : m = n := by
  have e : ∀ n : Nat, (numS (n : Int)).cps.toList = TL.numL n := fun n => TL.tl_num n
  refine TL.numL_inj ?_
  rw [← e, ← e, h]
theorem nodup_map' {α β : Type} {f : α → β} {l : List α} (hf : ∀ x y, f x = f y → x = y) (h : l.Nodup) : (l.map f).Nodup := by
  induction l with
  | nil => exact List.nodup_nil
  | cons a l ih =>
    rw [List.nodup_cons] at h
    rw [List.map_cons, List.nodup_cons]
    refine ⟨fun hm => ?_, ih h.2⟩
    obtain ⟨y, hy, e⟩ := List.mem_map.mp hm
    rw [← hf _ _ e] at h
    exact h.1 hy
theorem cstr_nat {n : Nat} (h : n < 10 ^ 40) : CStr (n : Int) := by
  unfold CStr
  rw [Int.natAbs_natCast]
  exact Nat.lt_trans h (by decide)
theorem intsF_split {n : Nat} {pre post : List Int} {x : Int} (h : intsF 0 n = pre ++ x :: post) : x = (pre.length : Int) ∧ pre.length < n := by
  have h1 : (intsF 0 n)[pre.length]? = some x := by rw [h]; simp
  obtain ⟨h2, h3⟩ := intsF_get h1
  exact ⟨by omega, h2⟩
/-- rows of a plan that is not refused -/
structure OkRows (prs : List (Str × Int)) (srs : List SRow) : Prop where
  pw : ∀ r ∈ prs, Wd r.1 ∧ 0 ≤ r.2 ∧ r.2 ≤ 99
  pn : (prs.map (·.1)).Nodup
  sw : ∀ r ∈ srs, Wd r.1 ∧ r.2.1 ≠ [] ∧ r.2.1.Nodup ∧ (∀ y ∈ r.2.1, y ∈ prs.map (·.1)) ∧ r.2.2.Nodup ∧ (∀ y ∈ r.2.2, y ∈ prs.map (·.1))
  sn : (srs.map (·.1)).Nodup
  p12 : prs.length ≤ 12
  s16 : srs.length ≤ 16
theorem OkRows.due {prs : List (Str × Int)} {srs : List SRow} (h : OkRows prs srs) : planDue prs srs = none := planDue_none h.pw h.pn h.sw h.sn h.p12 h.s16
theorem OkRows.len {prs : List (Str × Int)} {srs : List SRow} (h : OkRows prs srs) {l : List Str} (hn : l.Nodup) (hs : ∀ y ∈ l, y ∈ prs.map (·.1)) : l.length ≤ 12 := by
  have := List.Nodup.length_le_of_subset hn hs
  rw [List.length_map] at this
  have := h.p12
  omega
theorem OkRows.B {prs : List (Str × Int)} {srs : List SRow} (h : OkRows prs srs) : RowsB prs srs := by
  have pw : ∀ y ∈ prs.map (·.1), y.length ≤ 1000 := fun y hy => by
    obtain ⟨r, hr, rfl⟩ := List.mem_map.mp hy
    exact Nat.le_trans (h.pw r hr).1.len (by decide)
  refine ⟨fun r hr => Nat.le_trans (h.pw r hr).1.len (by decide), fun r hr => ?_⟩
  obtain ⟨a0, a1, a2, a3, a4, a5⟩ := h.sw r hr
  exact ⟨Nat.le_trans a0.len (by decide), Nat.le_trans (h.len a2 a3) (by decide), Nat.le_trans (h.len a4 a5) (by decide), fun y hy => pw y (a3 y hy), fun y hy => pw y (a5 y hy)⟩
end
section
theorem sig36_at {x : Int} : ∃ j : Nat, j < 36 ∧ atI (("abcdefghijklmnopqrstuvwxyz0123456789" : Str)).cps.toList (Int.fmod x 36) = some (SIG.getD j 0) := by
  have hb := fmod_box (x := x) (m := 36) (by decide)
  obtain ⟨j, e⟩ : ∃ j : Nat, Int.fmod x 36 = j := ⟨(Int.fmod x 36).toNat, by omega⟩
  rw [e]
  exact ⟨j, by omega, sig_at (by omega)⟩
theorem let_at {x : Int} : ∃ j : Nat, j < 26 ∧ atI (("abcdefghijklmnopqrstuvwxyz" : Str)).cps.toList (Int.fmod x 26) = some (SIG.getD j 0) := by
  have hb := fmod_box (x := x) (m := 26) (by decide)
  obtain ⟨j, e⟩ : ∃ j : Nat, Int.fmod x 26 = j := ⟨(Int.fmod x 26).toNat, by omega⟩
  rw [e]
  refine ⟨j, by omega, atI_nat ?_⟩
  have : ∀ j : Nat, j < 26 → (("abcdefghijklmnopqrstuvwxyz" : Str)).cps.toList[j]? = some (SIG.getD j 0) := by decide +kernel
  exact this j (by omega)
theorem stem1 {j : Nat} (hj : j < 26) : Stem 1 (⟨#[SIG.getD j 0]⟩ : Str) := by
  have h26 := sig26 j hj
  rw [Bool.and_eq_true] at h26
  exact ⟨Nat.le_refl _, SIG.getD j 0, [], rfl, of_decide_eq_true h26.1, fun d hd => by rw [List.mem_singleton.mp hd]; exact h26.2⟩
theorem wordC_ok {Q : Str → Prop} {X : HE → Prop} (h : ∀ z, Stem 12 z → Q z) : m__law_word Q X := by
  unfold m__law_word
  refine ⟨.inl ⟨by decide, by decide⟩, ⟨by decide, by decide, by decide⟩, .inl ⟨by decide, by decide⟩, draw_ok (by decide) (by decide) fun a ha => ?_⟩
  intro size es
  have hs : 0 ≤ size ∧ size < 12 := by
    rw [es]
    exact fmod_box (by decide)
  obtain ⟨m, rfl⟩ : ∃ m : Nat, size = m := ⟨size.toNat, by omega⟩
  refine ⟨?_, fun n1 e1 => ?_⟩
  · exact ⟨by decide, by decide⟩
  obtain ⟨j, hj, e2⟩ := let_at (x := n1)
  refine ⟨_, e2, fun base hb => ⟨⟨by decide, by decide⟩, fun n2 e3 => ⟨⟨by omega, by omega⟩, ?_⟩⟩⟩
  rw [Int.toNat_natCast]
  refine forD_inv (fun done (s : Int × Str) => Stem (1 + done.length) s.2) (by rw [hb]; exact stem1 hj) (fun pre x post s nx e hs2 hnx => ?_) fun s hs2 => ?_
  · have hx := intsF_split e
    obtain ⟨i, hi, e4⟩ := sig36_at (x := s.1)
    refine ⟨_, e4, ?_, fun z hz => ⟨⟨by decide, by decide⟩, fun n3 e5 => hnx _ ?_⟩⟩
    · have := hs2.len
      have hb : big = 100000 := rfl
      show _ + 1 ≤ _
      omega
    · rw [hz, List.length_append]
      exact hs2.app (m := 1) (fun d hd => by
        have hd : d ∈ [SIG.getD i 0] := hd
        rw [List.mem_singleton.mp hd]
        exact sig36 i hi) (Nat.le_refl _)
  · rw [intsF_len] at hs2
    exact h _ ⟨Nat.le_trans hs2.len (by omega), hs2.ex⟩
/-- the words that are tried when the first one is used -/
def spare (k : Nat) : Str := ⟨#[SIG.getD (k % 26) 0]⟩ ++ numS (k : Int)
theorem spare_inj {m n : Nat} (h : spare m = spare n) : m = n := by
  have e := congrArg (fun z : Str => z.cps.toList.tail) h
  unfold spare at e
  simp only [cps_app, List.singleton_append] at e
  refine num_inj ?_
  have e : (numS (m : Int)).cps.toList = (numS (n : Int)).cps.toList := e
  rcases hm : numS (m : Int) with ⟨a⟩
  rcases hn : numS (n : Int) with ⟨b⟩
  rw [hm, hn] at e
  have e : a.toList = b.toList := e
  rw [Array.toList_inj.mp e]
theorem spare_stem {k : Nat} (h : k < 100) : Stem 3 (spare k) := (stem1 (Nat.mod_lt _ (by decide))).app (m := 2) (num_okc k) (num_lenN (by decide) h)
theorem spare_fresh {used : List Str} {n : Nat} (hl : used.length < n) (h : ∀ j < n, spare j ∈ used) : False := by
  have h1 : ((List.range n).map spare).Nodup := nodup_map' (fun _ _ => spare_inj) List.nodup_range
  have h2 : ∀ x ∈ (List.range n).map spare, x ∈ used := fun x hx => by
    obtain ⟨j, hj, rfl⟩ := List.mem_map.mp hx
    exact h j (List.mem_range.mp hj)
  have := List.Nodup.length_le_of_subset h1 h2
  rw [List.length_map, List.length_range] at this
  omega
theorem fresh_ok {used : List Str} {Q : Str → Prop} {X : HE → Prop} (hl : used.length < 59) (h : ∀ z, Wd z → z ∉ used → Q z) : m__law_fresh used Q X := by
  unfold m__law_fresh
  refine wordC_ok fun z hz => ?_
  refine forD_inv (fun done (w : Str) => Stem 12 w ∧ (∀ j, j + 1 = done.length → w = spare j) ∧ ∀ j, j + 1 < done.length → spare j ∈ used) ⟨hz, fun j hj => absurd hj (by simp), fun j hj => absurd hj (by simp)⟩ (fun pre x post w nx e ⟨h1, h2, h3⟩ hnx => ?_) fun w ⟨h1, h2, h3⟩ => ?_
  · obtain ⟨rfl, hp⟩ := intsF_split e
    have hp : pre.length < 60 := hp
    refine ⟨fun hc => ?_, fun hc => ?_⟩
    · refine h _ (h1.isWd (by decide)) fun hm => ?_
      rw [decide_eq_true hm] at hc
      cases hc
    · have hm : w ∈ used := by
        by_cases q : w ∈ used
        · exact q
        · rw [decide_eq_false q] at hc
          cases hc
      have eL : atI (("abcdefghijklmnopqrstuvwxyz" : Str)).cps.toList (Int.fmod (pre.length : Int) 26) = some (SIG.getD (pre.length % 26) 0) := by
        have e1 : Int.fmod (pre.length : Int) 26 = ((pre.length % 26 : Nat) : Int) := by
          rw [Int.fmod_eq_emod_of_nonneg _ (by decide)]
          omega
        rw [e1]
        have : ∀ j : Nat, j < 26 → (("abcdefghijklmnopqrstuvwxyz" : Str)).cps.toList[j]? = some (SIG.getD j 0) := by decide +kernel
        exact atI_nat (this _ (Nat.mod_lt _ (by decide)))
      refine ⟨_, eL, cstr_nat (Nat.lt_trans (show pre.length < 101 by omega) (by decide)), ?_, fun y hy => hnx y ⟨?_, fun j hj => ?_, fun j hj => ?_⟩⟩
      · have h1 := num_lenN (n := pre.length) (k := 2) (by decide) (by show _ < 100; omega)
        have hb : big = 100000 := rfl
        show 1 + _ ≤ _
        omega
      · rw [hy]
        have := spare_stem (k := pre.length) (by omega)
        exact ⟨Nat.le_trans this.len (by decide), this.ex⟩
      · rw [List.length_append] at hj
        have : j = pre.length := by simp at hj; exact hj
        rw [this]
        exact hy
      · rw [List.length_append] at hj
        by_cases q : j + 1 = pre.length
        · rw [← h2 j q]
          exact hm
        · exact h3 j (by simp at hj; omega)
  · rw [intsF_len] at h2 h3
    refine (spare_fresh (n := 59) hl fun j hj => h3 j ?_).elim
    show j + 1 < 60
    omega
theorem words_ok {n : Nat} {Q : List Str → Prop} {X : HE → Prop} (hn : n ≤ 58) (h : ∀ ws : List Str, ws.length = n → ws.Nodup → (∀ y ∈ ws, Wd y) → Q ws) : m__law_words (n : Int) Q X := by
  unfold m__law_words
  refine ⟨⟨by omega, by omega⟩, ?_⟩
  rw [Int.toNat_natCast]
  refine forD_inv (fun done (s : List Str) => s.length = done.length ∧ s.Nodup ∧ ∀ y ∈ s, Wd y) ⟨rfl, List.nodup_nil, (fun y hy => nomatch hy)⟩ (fun pre x post s nx e ⟨h1, h2, h3⟩ hnx => ?_) fun s ⟨h1, h2, h3⟩ => ?_
  · have hp := (intsF_split e).2
    refine fresh_ok (by omega) fun z hz hzn => ⟨lt_big (by omega), hnx _ ⟨?_, nodup_snoc h2 hzn, fun y hy => ?_⟩⟩
    · rw [List.length_append, List.length_append, h1]
      rfl
    · rcases List.mem_append.mp hy with q | q
      · exact h3 y q
      · rw [List.mem_singleton.mp q]
        exact hz
  · rw [intsF_len] at h1
    exact h s h1 h2 h3
theorem pick_ok {ws : List Str} {m : Int} {Q : List Str → Prop} {X : HE → Prop} (hn : ws.Nodup) (hl : ws.length ≤ 100) (hm : m = 0 ∨ m = 1 ∧ ws ≠ []) (h : ∀ r, r.Nodup → (∀ y ∈ r, y ∈ ws) → (m = 1 → r ≠ []) → r.length ≤ 100 → Q r) : m__law_pick ws m Q X := by
  unfold m__law_pick
  refine ⟨⟨by decide, by decide, by decide⟩, draw_ok (by decide) (by decide) fun i hi => ?_⟩
  refine forD_inv (fun done (s : Int × List Str) => s.2.Sublist done) .slnil (fun pre x post s nx e hs hnx => ?_) fun s hs => ?_
  · have key : ∀ t : List Str, t.Sublist (pre ++ [x]) → CDivN s.1 3 ∧ ∀ n, n = Int.fdiv s.1 3 → nx (n, t) := fun t ht => ⟨⟨by decide, by decide⟩, fun n _ => hnx _ ht⟩
    refine ⟨fun _ => ⟨?_, key _ ?_⟩, fun _ => key _ ?_⟩
    · have h1 := hs.length_le
      have h2 : pre.length < ws.length := by rw [e]; simp
      have hb : big = 100000 := rfl
      omega
    · exact hs.append (List.Sublist.refl [x])
    · exact hs.trans (List.sublist_append_left _ _)
  · have h1 := hs.length_le
    have hin : ∀ y ∈ s.2, y ∈ ws := fun y hy => hs.subset hy
    refine ⟨fun hc => ?_, fun hc => ?_⟩
    · have hc := of_decide_eq_true hc
      rcases hm with rfl | ⟨rfl, hne⟩
      · omega
      · have hp : 0 < ws.length := pos_of_ne hne
        refine draw_ok (by omega) (Int.le_trans (show (ws.length : Int) ≤ 1000 by omega) (by decide)) fun i hi => ⟨ws[i]'(by omega), atI_nat (List.getElem?_eq_getElem (by omega)), fun c hc => h c ?_ ?_ (fun _ => by rw [hc]; simp) (by rw [hc]; show 1 ≤ 100; decide)⟩
        · rw [hc]; simp
        · rw [hc]
          intro y hy
          rw [List.mem_singleton.mp hy]
          exact List.getElem_mem _
    · refine h s.2 (hs.nodup hn) hin (fun e1 e2 => ?_) (Nat.le_trans h1 hl)
      subst e1
      have hc := of_decide_eq_false hc
      rw [e2] at hc
      simp at hc
end
section
theorem one_add (n : Nat) : (1 : Int) + (n : Int) = ((n + 1 : Nat) : Int) := by omega
/-- rows of a plan, but for their numbers -/
structure OkR (prs : List (Str × Int)) (srs : List SRow) : Prop where
  pw : ∀ r ∈ prs, Wd r.1 ∧ 0 ≤ r.2 ∧ r.2 ≤ 99
  pn : (prs.map (·.1)).Nodup
  sw : ∀ r ∈ srs, Wd r.1 ∧ r.2.1 ≠ [] ∧ r.2.1.Nodup ∧ (∀ y ∈ r.2.1, y ∈ prs.map (·.1)) ∧ r.2.2.Nodup ∧ (∀ y ∈ r.2.2, y ∈ prs.map (·.1))
  sn : (srs.map (·.1)).Nodup
theorem OkR.rows {prs : List (Str × Int)} {srs : List SRow} (h : OkR prs srs) (h1 : prs.length ≤ 12) (h2 : srs.length ≤ 16) : OkRows prs srs := ⟨h.pw, h.pn, h.sw, h.sn, h1, h2⟩
theorem OkRows.r {prs : List (Str × Int)} {srs : List SRow} (h : OkRows prs srs) : OkR prs srs := ⟨h.pw, h.pn, h.sw, h.sn⟩
theorem anyC_ok {a b : Nat} {Q : List (Str × Int) × List SRow → Prop} {X : HE → Prop} (a0 : 0 < a) (ha : a ≤ 12) (b0 : 0 < b) (hb : b ≤ 16)
    (h : ∀ prs srs, OkR prs srs → 1 ≤ prs.length → prs.length ≤ a → 1 ≤ srs.length → srs.length ≤ b → (∀ r ∈ prs, r.2 ≤ 2) → Q (prs, srs)) : m__law_any (a : Int) (b : Int) Q X := by
  unfold m__law_any
  refine draw_ok (by omega) (Int.le_trans (show (a : Int) ≤ 1000 by omega) (by decide)) fun n hn => ?_
  rw [one_add]
  refine words_ok (by omega) fun ws l1 l2 l3 => ?_
  refine mapD_inv (fun (x : Str) (y : Str × Int) => y.1 = x ∧ 0 ≤ y.2 ∧ y.2 ≤ 2) (fun x hx k hk => draw_ok (by decide) (by decide) fun i hi => hk _ ⟨rfl, by show (0 : Int) ≤ i; omega, by show (i : Int) ≤ 2; omega⟩) fun prs hp => ?_
  rw [List.nil_append]
  have em : prs.map (·.1) = ws := by
    clear l1 l2 l3
    induction hp with
    | nil => rfl
    | cons a _ ih => rw [List.map_cons, ih, a.1]
  have em2 : ∀ r ∈ prs, 0 ≤ r.2 ∧ r.2 ≤ 2 := by
    clear em l1 l2 l3
    induction hp with
    | nil => exact fun r hr => nomatch hr
    | cons a _ ih => exact fun r hr => (List.mem_cons.mp hr).elim (fun q => by rw [q]; exact a.2) (ih r)
  have el : prs.length = n + 1 := by rw [← l1, ← em, List.length_map]
  refine draw_ok (by omega) (Int.le_trans (show (b : Int) ≤ 1000 by omega) (by decide)) fun m hm => ?_
  rw [one_add]
  refine words_ok (by omega) fun ns g1 g2 g3 => ?_
  have wne : ws ≠ [] := fun q => by rw [q] at l1; cases l1
  refine forD_inv (fun done (t : List SRow) => t.map (·.1) = done ∧ (∀ r ∈ t, r.2.1 ≠ [] ∧ r.2.1.Nodup ∧ (∀ y ∈ r.2.1, y ∈ ws) ∧ r.2.2.Nodup ∧ (∀ y ∈ r.2.2, y ∈ ws))) ⟨rfl, (fun r hr => nomatch hr)⟩ (fun pre x post t nx e ⟨h1, h2⟩ hnx => ?_) fun t ⟨h1, h2⟩ => ?_
  · have hlt : t.length < 1000 := by
      have : t.length = pre.length := by rw [← h1, List.length_map]
      have : pre.length < ns.length := by rw [e]; simp
      omega
    refine pick_ok l2 (by omega) (.inr ⟨rfl, wne⟩) fun r1 a1 a2 a3 a4 => ?_
    refine pick_ok l2 (by omega) (.inl rfl) fun r2 b1 b2 b3 b4 => ⟨lt_big hlt, hnx _ ⟨by rw [List.map_append, h1]; rfl, fun r hr => ?_⟩⟩
    rcases List.mem_append.mp hr with q | q
    · exact h2 r q
    · rw [List.mem_singleton.mp q]
      exact ⟨a3 rfl, a1, a2, b1, b2⟩
  · have e2 : t.length = m + 1 := by rw [← g1, ← h1, List.length_map]
    refine h prs t ⟨fun r hr => ⟨l3 _ (by rw [← em]; exact List.mem_map.mpr ⟨r, hr, rfl⟩), (em2 r hr).1, by have := (em2 r hr).2; omega⟩, by rw [em]; exact l2, fun r hr => ?_, by rw [h1]; exact g2⟩ (by omega) (by omega) (by omega) (by omega) fun r hr => (em2 r hr).2
    obtain ⟨c1, c2, c3, c4, c5⟩ := h2 r hr
    exact ⟨g3 _ (by rw [← h1]; exact List.mem_map.mpr ⟨r, hr, rfl⟩), c1, c2, by rw [em]; exact c3, c4, by rw [em]; exact c5⟩
def strT (p w : Str) (r : SRow) : SRow := (r.1, r.2.1.map (fun x => bif decide (x = p) then w else x), r.2.2)
def strF (srs : List SRow) (p w nm : Str) : List SRow := srs.map (strT p w) ++ [(nm, [p], [w])]
def addF (p w : Str) (l : List Str) : List Str := l ++ (bif decide (p ∈ l) then [w] else [])
def twT (p w : Str) (r : SRow) : SRow := (r.1, addF p w r.2.1, addF p w r.2.2)
theorem addF_len {p w : Str} {l : List Str} : (addF p w l).length ≤ l.length + 1 := by
  unfold addF
  rw [List.length_append]
  cases decide (p ∈ l)
  · show l.length + 0 ≤ _; omega
  · show l.length + 1 ≤ _; omega
theorem stretched_ok {prs : List (Str × Int)} {srs : List SRow} {p w nm : Str} {Q : List (Str × Int) × List SRow → Prop} {X : HE → Prop} (h1 : prs.length ≤ 1000) (h2 : srs.length ≤ 1000) (h : Q (prs ++ [(w, 0)], strF srs p w nm)) : m__law_stretched (prs, srs) p w nm Q X := by
  unfold m__law_stretched
  have hb : big = 100000 := rfl
  refine forD_push (strT p w) (N := big) (fun x hx s nx hl hn => ⟨hl, hn⟩) (by show 0 + srs.length ≤ _; omega) ?_
  rw [List.nil_append]
  exact ⟨by show prs.length + 1 ≤ _; omega, by rw [List.length_map]; show srs.length + 1 ≤ _; omega, h⟩
theorem at_num {prs : List (Str × Int)} {p : Str} {n : Int} (hn : (prs.map (·.1)).Nodup) (hp : (p, n) ∈ prs) : atI ((prs.filter fun x => decide (x.1 = p)).map fun x => x.2) (0 : Int) = some n := by
  have e : prs.filter (fun x => decide (x.1 = p)) = [(p, n)] := by
    induction prs with
    | nil => cases hp
    | cons a l ih =>
      rw [List.map_cons, List.nodup_cons] at hn
      rcases List.mem_cons.mp hp with q | q
      · subst q
        have e1 : List.filter (fun x : Str × Int => decide (x.1 = p)) ((p, n) :: l) = (p, n) :: List.filter (fun x => decide (x.1 = p)) l := List.filter_cons_of_pos (decide_eq_true rfl)
        rw [e1]
        congr 1
        refine List.filter_eq_nil_iff.mpr fun y hy hc => hn.1 ?_
        exact List.mem_map.mpr ⟨y, hy, of_decide_eq_true hc⟩
      · rw [List.filter_cons_of_neg, ih hn.2 q]
        intro hc
        refine hn.1 ?_
        rw [of_decide_eq_true hc]
        exact List.mem_map.mpr ⟨_, q, rfl⟩
  rw [e]
  exact atI_0
theorem twinned_ok {prs : List (Str × Int)} {srs : List SRow} {p w : Str} {n : Int} {Q : List (Str × Int) × List SRow → Prop} {X : HE → Prop} (ok : OkR prs srs) (h1 : prs.length ≤ 1000) (h2 : srs.length ≤ 1000) (hp : (p, n) ∈ prs) (h : Q (prs ++ [(w, n)], srs.map (twT p w))) : m__law_twinned (prs, srs) p w Q X := by
  unfold m__law_twinned
  have hb : big = 100000 := rfl
  have key : ∀ {l : List Str}, l.Nodup → (∀ y ∈ l, y ∈ prs.map (·.1)) → l.length ≤ 1000 := fun {l} a b => by
    have := List.Nodup.length_le_of_subset a b
    rw [List.length_map] at this
    omega
  refine forD_push (twT p w) (N := big) (fun x hx s nx hl hn => ?_) (by show 0 + srs.length ≤ _; omega) ?_
  · obtain ⟨_, _, a2, a3, a4, a5⟩ := ok.sw x hx
    have k1 := key a2 a3
    have k2 := key a4 a5
    have l1 : ∀ c : Bool, (bif c then [w] else []).length ≤ 1 := fun c => by cases c <;> simp
    intro more em
    subst em
    exact ⟨by have := l1 (decide (p ∈ x.2.1)); omega, by have := l1 (decide (p ∈ x.2.2)); omega, hl, hn⟩
  · rw [List.nil_append]
    exact ⟨n, at_num ok.pn hp, by show prs.length + 1 ≤ _; omega, h⟩
theorem row_at {srs : List SRow} {r : SRow} (hn : (srs.map (·.1)).Nodup) (hr : r ∈ srs) : atI ((srs.filter fun x => decide (x.1 = r.1)).map fun x => x) (0 : Int) = some r := by
  have e : srs.filter (fun x => decide (x.1 = r.1)) = [r] := by
    induction srs with
    | nil => cases hr
    | cons a l ih =>
      rw [List.map_cons, List.nodup_cons] at hn
      rcases List.mem_cons.mp hr with q | q
      · subst q
        have e1 : List.filter (fun x : SRow => decide (x.1 = r.1)) (r :: l) = r :: List.filter (fun x => decide (x.1 = r.1)) l := List.filter_cons_of_pos (decide_eq_true rfl)
        rw [e1]
        congr 1
        refine List.filter_eq_nil_iff.mpr fun y hy hc => hn.1 ?_
        exact List.mem_map.mpr ⟨y, hy, of_decide_eq_true hc⟩
      · rw [List.filter_cons_of_neg, ih hn.2 q]
        intro hc
        refine hn.1 ?_
        rw [of_decide_eq_true hc]
        exact List.mem_map.mpr ⟨_, q, rfl⟩
  rw [e]
  exact atI_0
theorem OkR.more {prs : List (Str × Int)} {srs : List SRow} (ok : OkR prs srs) {w : Str} {n : Int} (hw : Wd w) (hn : w ∉ prs.map (·.1)) (n0 : 0 ≤ n) (n1 : n ≤ 99) : OkR (prs ++ [(w, n)]) srs := by
  refine ⟨fun r hr => ?_, by rw [List.map_append]; exact nodup_snoc ok.pn hn, fun r hr => ?_, ok.sn⟩
  · rcases List.mem_append.mp hr with q | q
    · exact ok.pw r q
    · rw [List.mem_singleton.mp q]
      exact ⟨hw, n0, n1⟩
  · obtain ⟨a0, a1, a2, a3, a4, a5⟩ := ok.sw r hr
    refine ⟨a0, a1, a2, fun y hy => ?_, a4, fun y hy => ?_⟩
    · rw [List.map_append]; exact List.mem_append_left _ (a3 y hy)
    · rw [List.map_append]; exact List.mem_append_left _ (a5 y hy)
theorem OkR.step {prs : List (Str × Int)} {srs : List SRow} (ok : OkR prs srs) {r : SRow} (h : Wd r.1 ∧ r.2.1 ≠ [] ∧ r.2.1.Nodup ∧ (∀ y ∈ r.2.1, y ∈ prs.map (·.1)) ∧ r.2.2.Nodup ∧ (∀ y ∈ r.2.2, y ∈ prs.map (·.1))) (hn : r.1 ∉ srs.map (·.1)) : OkR prs (srs ++ [r]) :=
  ⟨ok.pw, ok.pn, fun q hq => (List.mem_append.mp hq).elim (ok.sw q) fun z => by rw [List.mem_singleton.mp z]; exact h, by rw [List.map_append]; exact nodup_snoc ok.sn hn⟩
theorem nodup_sub {p w : Str} {l : List Str} (h : l.Nodup) (hw : w ∉ l) : (l.map (fun x => bif decide (x = p) then w else x)).Nodup := by
  have inj : ∀ {a b : Str}, a ∈ l → b ∈ l → (bif decide (a = p) then w else a) = (bif decide (b = p) then w else b) → a = b := fun {a b} ha hb e => by
    by_cases q : a = p
    · by_cases q2 : b = p
      · rw [q, q2]
      · rw [decide_eq_true q, decide_eq_false q2] at e
        have e : w = b := e
        rw [← e] at hb
        exact absurd hb hw
    · by_cases q2 : b = p
      · rw [decide_eq_false q, decide_eq_true q2] at e
        have e : a = w := e
        rw [e] at ha
        exact absurd ha hw
      · rw [decide_eq_false q, decide_eq_false q2] at e
        exact e
  induction l with
  | nil => exact List.nodup_nil
  | cons a l ih =>
    rw [List.nodup_cons] at h
    rw [List.map_cons, List.nodup_cons]
    refine ⟨fun hm => ?_, ih h.2 (fun z => hw (List.mem_cons_of_mem _ z)) fun ha hb => inj (List.mem_cons_of_mem _ ha) (List.mem_cons_of_mem _ hb)⟩
    obtain ⟨y, hy, e⟩ := List.mem_map.mp hm
    rw [inj (List.mem_cons_of_mem _ hy) (List.mem_cons_self ..) e] at hy
    exact h.1 hy
theorem OkR.stretch {prs : List (Str × Int)} {srs : List SRow} (ok : OkR prs srs) {p w nm : Str} (hp : p ∈ prs.map (·.1)) (hw : Wd w) (hn : w ∉ prs.map (·.1)) (hm : Wd nm) (hmn : nm ∉ srs.map (·.1)) : OkR (prs ++ [(w, 0)]) (strF srs p w nm) := by
  have e1 : (srs.map (strT p w)).map (·.1) = srs.map (·.1) := by rw [List.map_map]; rfl
  have mw : w ∈ (prs ++ [(w, (0 : Int))]).map (·.1) := by rw [List.map_append]; exact List.mem_append_right _ (List.mem_singleton.mpr rfl)
  have mp : ∀ y ∈ prs.map (·.1), y ∈ (prs ++ [(w, (0 : Int))]).map (·.1) := fun y hy => by rw [List.map_append]; exact List.mem_append_left _ hy
  have ok2 := ok.more hw hn (Int.le_refl 0) (by decide)
  refine OkR.step ⟨ok2.pw, ok2.pn, fun r hr => ?_, by rw [e1]; exact ok.sn⟩ ⟨hm, by simp, by simp, fun y hy => ?_, by simp, fun y hy => ?_⟩ (by rw [e1]; exact hmn)
  · obtain ⟨q, hq, rfl⟩ := List.mem_map.mp hr
    obtain ⟨a0, a1, a2, a3, a4, a5⟩ := ok.sw q hq
    refine ⟨a0, fun z => a1 (List.map_eq_nil_iff.mp z), nodup_sub a2 fun z => hn (a3 w z), fun y hy => ?_, a4, fun y hy => mp y (a5 y hy)⟩
    obtain ⟨z, hz, rfl⟩ := List.mem_map.mp hy
    cases decide (z = p)
    · exact mp z (a3 z hz)
    · exact mw
  · rw [List.mem_singleton.mp hy]; exact mp p hp
  · rw [List.mem_singleton.mp hy]; exact mw
theorem addF_mem {p w y : Str} {l : List Str} (h : y ∈ addF p w l) : y ∈ l ∨ y = w := by
  unfold addF at h
  rcases List.mem_append.mp h with q | q
  · exact .inl q
  · cases e : decide (p ∈ l)
    · rw [e] at q; cases q
    · rw [e] at q; exact .inr (List.mem_singleton.mp q)
theorem addF_nodup {p w : Str} {l : List Str} (h : l.Nodup) (hw : w ∉ l) : (addF p w l).Nodup := by
  unfold addF
  cases decide (p ∈ l)
  · show (l ++ []).Nodup
    rw [List.append_nil]
    exact h
  · exact nodup_snoc h hw
theorem OkR.twin {prs : List (Str × Int)} {srs : List SRow} (ok : OkR prs srs) {p w : Str} {n : Int} (hp : (p, n) ∈ prs) (hw : Wd w) (hn : w ∉ prs.map (·.1)) : OkR (prs ++ [(w, n)]) (srs.map (twT p w)) := by
  have e1 : (srs.map (twT p w)).map (·.1) = srs.map (·.1) := by rw [List.map_map]; rfl
  have hpn := ok.pw _ hp
  have mw : w ∈ (prs ++ [(w, n)]).map (·.1) := by rw [List.map_append]; exact List.mem_append_right _ (List.mem_singleton.mpr rfl)
  have mp : ∀ y ∈ prs.map (·.1), y ∈ (prs ++ [(w, n)]).map (·.1) := fun y hy => by rw [List.map_append]; exact List.mem_append_left _ hy
  have ok2 := ok.more hw hn hpn.2.1 hpn.2.2
  refine ⟨ok2.pw, ok2.pn, fun r hr => ?_, by rw [e1]; exact ok.sn⟩
  obtain ⟨q, hq, rfl⟩ := List.mem_map.mp hr
  obtain ⟨a0, a1, a2, a3, a4, a5⟩ := ok.sw q hq
  refine ⟨a0, fun z => a1 (List.append_eq_nil_iff.mp z).1, addF_nodup a2 fun z => hn (a3 w z), fun y hy => ?_, addF_nodup a4 fun z => hn (a5 w z), fun y hy => ?_⟩
  · rcases addF_mem hy with z | rfl
    · exact mp y (a3 y z)
    · exact mw
  · rcases addF_mem hy with z | rfl
    · exact mp y (a5 y z)
    · exact mw
theorem OkR.echo {prs : List (Str × Int)} {srs : List SRow} (ok : OkR prs srs) {r : SRow} {nm : Str} (hr : r ∈ srs) (hm : Wd nm) (hmn : nm ∉ srs.map (·.1)) : OkR prs (srs ++ [(nm, r.2.1, r.2.2)]) := ok.step ⟨hm, (ok.sw r hr).2⟩ hmn
theorem OkR.detour {prs : List (Str × Int)} {srs : List SRow} (ok : OkR prs srs) {p w go co : Str} (hp : p ∈ prs.map (·.1)) (hw : Wd w) (hn : w ∉ prs.map (·.1)) (hg : Wd go) (hgn : go ∉ srs.map (·.1)) (hc : Wd co) (hcn : co ∉ go :: srs.map (·.1)) : OkR (prs ++ [(w, 0)]) (srs ++ [(go, [p], [w]), (co, [w], [p])]) := by
  have mw : w ∈ (prs ++ [(w, (0 : Int))]).map (·.1) := by rw [List.map_append]; exact List.mem_append_right _ (List.mem_singleton.mpr rfl)
  have mp : p ∈ (prs ++ [(w, (0 : Int))]).map (·.1) := by rw [List.map_append]; exact List.mem_append_left _ hp
  have s1 : ∀ {x y : Str}, x ∈ (prs ++ [(w, (0 : Int))]).map (·.1) → ∀ z ∈ [x], z ∈ (prs ++ [(w, (0 : Int))]).map (·.1) := fun {x y} hx z hz => by rw [List.mem_singleton.mp hz]; exact hx
  have h1 := (ok.more hw hn (Int.le_refl 0) (by decide)).step (r := (go, [p], [w])) ⟨hg, by simp, by simp, s1 (y := p) mp, by simp, s1 (y := p) mw⟩ hgn
  have h2 := h1.step (r := (co, [w], [p])) ⟨hc, by simp, by simp, s1 (y := p) mw, by simp, s1 (y := p) mp⟩ (fun z => hcn (by
    rw [List.map_append] at z
    rcases List.mem_append.mp z with q | q
    · exact List.mem_cons_of_mem _ q
    · have q : co = go := List.mem_singleton.mp q
      rw [q]; exact List.mem_cons_self ..))
  rw [List.append_assoc] at h2
  exact h2
theorem OkR.rot {prs : List (Str × Int)} {srs : List SRow} (ok : OkR prs srs) {prs' : List (Str × Int)} {srs' : List SRow} (hp : prs'.Perm prs) (hs : srs'.Perm srs) : OkR prs' srs' := by
  have e : (prs'.map (·.1)).Perm (prs.map (·.1)) := hp.map _
  refine ⟨fun r hr => ok.pw r (hp.mem_iff.mp hr), (e.nodup_iff).mpr ok.pn, fun r hr => ?_, (List.Perm.nodup_iff (show (srs'.map (·.1)).Perm (srs.map (·.1)) from hs.map _)).mpr ok.sn⟩
  obtain ⟨a0, a1, a2, a3, a4, a5⟩ := ok.sw r (hs.mem_iff.mp hr)
  exact ⟨a0, a1, a2, fun y hy => e.mem_iff.mpr (a3 y hy), a4, fun y hy => e.mem_iff.mpr (a5 y hy)⟩
theorem rot_perm {α : Type} (l : List α) (n : Nat) : (cutX l (some (n : Int)) none ++ cutX l none (some (n : Int))).Perm l := by
  rw [cutX_drop, cutX_take]
  exact List.perm_append_comm.trans (by rw [List.take_append_drop])
theorem ring_ok {Q : List (Str × Int) × List SRow → Prop} {X : HE → Prop} (h : ∀ prs srs, OkR prs srs → 1 ≤ prs.length → prs.length ≤ 3 → 1 ≤ srs.length → srs.length ≤ 3 → Q (prs, srs)) : m__law_ring Q X := by
  unfold m__law_ring
  refine draw_ok (by decide) (by decide) fun v hv size es => ?_
  have hv : v < 3 := by omega
  rw [one_add] at es
  subst es
  refine words_ok (by omega) fun ws l1 l2 l3 => words_ok (by omega) fun ns g1 g2 g3 => ?_
  have h0 : 0 < ws.length := by omega
  refine ⟨ws[0]'h0, atI_nat (j := 0) (List.getElem?_eq_getElem h0), draw_ok (by decide) (by decide) fun i hi => ?_⟩
  refine mapD_inv (fun (x : Str) (y : Str × Int) => y.1 = x ∧ 0 ≤ y.2 ∧ y.2 ≤ 2) (fun x hx k hk => draw_ok (by decide) (by decide) fun i hi => hk _ ⟨rfl, by show (0 : Int) ≤ i; omega, by show (i : Int) ≤ 2; omega⟩) fun ys hp => ?_
  rw [List.nil_append]
  have ec : cutX ws (some (1 : Int)) none = ws.drop 1 := cutX_drop ws 1
  rw [ec] at hp
  have em : ys.map (·.1) = ws.drop 1 := by
    generalize ws.drop 1 = us at hp
    induction hp with
    | nil => rfl
    | cons a _ ih => rw [List.map_cons, ih, a.1]
  have em2 : ∀ r ∈ ys, 0 ≤ r.2 ∧ r.2 ≤ 2 := by
    clear em
    generalize ws.drop 1 = us at hp
    induction hp with
    | nil => exact fun r hr => nomatch hr
    | cons a _ ih => exact fun r hr => (List.mem_cons.mp hr).elim (fun q => by rw [q]; exact a.2) (ih r)
  have el : ys.length = v := by
    have := congrArg List.length em
    rw [List.length_map, List.length_drop] at this
    omega
  refine ⟨by have hb : big = 100000 := rfl; show 1 + ys.length ≤ _; omega, fun places ep => ⟨⟨by omega, by omega⟩, ?_⟩⟩
  have ew : places.map (·.1) = ws := by
    rw [ep, List.map_append, em]
    show ws[0] :: ws.drop 1 = ws
    cases ws with
    | nil => cases h0
    | cons a l => rfl
  have epl : places.length = v + 1 := by rw [← l1, ← ew, List.length_map]
  rw [Int.toNat_natCast]
  refine mapD_ok (fun x : Int => ((ns.getD x.toNat "", [ws.getD x.toNat ""], [ws.getD ((x.toNat + 1) % (v + 1)) ""]) : SRow)) (fun x hx k hk => ?_) ?_
  · obtain ⟨j, hj, rfl⟩ := mem_intsF hx
    have a1 : ns[j]? = some (ns.getD j "") := by
      rw [List.getD_eq_getElem?_getD, List.getElem?_eq_getElem (by omega)]; rfl
    have a2 : ws[j]? = some (ws.getD j "") := by
      rw [List.getD_eq_getElem?_getD, List.getElem?_eq_getElem (by omega)]; rfl
    have hm : (j + 1) % (v + 1) < v + 1 := Nat.mod_lt _ (by omega)
    have a3 : ws[(j + 1) % (v + 1)]? = some (ws.getD ((j + 1) % (v + 1)) "") := by
      rw [List.getD_eq_getElem?_getD, List.getElem?_eq_getElem (by omega)]; rfl
    have e4 : Int.fmod ((j : Int) + 1) ((v + 1 : Nat) : Int) = (((j + 1) % (v + 1) : Nat) : Int) := by
      rw [Int.fmod_eq_emod_of_nonneg _ (by omega), show ((j : Int) + 1) = ((j + 1 : Nat) : Int) by omega]
      exact (Int.natCast_emod _ _).symm
    refine ⟨_, atI_nat a1, _, atI_nat a2, by omega, _, by rw [e4]; exact atI_nat a3, ?_⟩
    rw [Int.toNat_natCast] at hk
    exact hk
  · rw [List.nil_append]
    have en : ((intsF 0 (v + 1)).map (fun x : Int => ((ns.getD x.toNat "", [ws.getD x.toNat ""], [ws.getD ((x.toNat + 1) % (v + 1)) ""]) : SRow))).map (·.1) = ns := by
      rw [List.map_map]
      refine List.ext_getElem (by rw [List.length_map, intsF_len, g1]) fun j h1 h2 => ?_
      rw [List.getElem_map]
      have e0 : (intsF 0 (v + 1))[j]'(by rw [intsF_len]; omega) = (j : Int) := by
        unfold intsF
        rw [List.getElem_map, List.getElem_range]
        omega
      show ns.getD ((intsF 0 (v + 1))[j]'_).toNat "" = _
      rw [e0, Int.toNat_natCast, List.getD_eq_getElem?_getD, List.getElem?_eq_getElem h2]
      rfl
    have gm : ∀ j, j < v + 1 → ws.getD j "" ∈ places.map (·.1) := fun j hj => by
      rw [ew, List.getD_eq_getElem?_getD, List.getElem?_eq_getElem (by omega)]
      exact List.getElem_mem _
    have s1 : ∀ {x : Str}, x ∈ places.map (·.1) → ∀ z ∈ [x], z ∈ places.map (·.1) := fun {x} hx z hz => by rw [List.mem_singleton.mp hz]; exact hx
    refine h _ _ ⟨fun r hr => ?_, by rw [ew]; exact l2, fun r hr => ?_, by rw [en]; exact g2⟩ (by omega) (by omega) (by rw [List.length_map, intsF_len]; omega) (by rw [List.length_map, intsF_len]; omega)
    · refine ⟨l3 _ (by rw [← ew]; exact List.mem_map.mpr ⟨r, hr, rfl⟩), ?_⟩
      rw [ep] at hr
      rcases List.mem_append.mp hr with q | q
      · rw [List.mem_singleton.mp q]
        exact ⟨by show (0 : Int) ≤ 1 + i; omega, by show 1 + (i : Int) ≤ 99; omega⟩
      · have := em2 r q
        omega
    · refine ⟨g3 _ (by rw [← en]; exact List.mem_map.mpr ⟨r, hr, rfl⟩), ?_⟩
      obtain ⟨x, hx, rfl⟩ := List.mem_map.mp hr
      obtain ⟨j, hj, rfl⟩ := mem_intsF hx
      rw [Int.toNat_natCast]
      exact ⟨by simp, by simp, s1 (gm j hj), by simp, s1 (gm _ (Nat.mod_lt _ (by omega)))⟩
theorem grownC_ok {most : Nat} {Q : List (Str × Int) × List SRow → Prop} {X : HE → Prop} (hm : most ≤ 6) (h : ∀ prs srs, OkR prs srs → 1 ≤ prs.length → prs.length ≤ 3 + most → 1 ≤ srs.length → srs.length ≤ 3 + 2 * most → Q (prs, srs)) : m__law_grown (most : Int) Q X := by
  unfold m__law_grown
  refine ring_ok fun prs0 srs0 ok0 p1 p3 s1 s3 => ?_
  refine draw_ok (by omega) (Int.le_trans (show (most : Int) + 1 ≤ 1000 by omega) (by decide)) fun t ht => ⟨⟨by omega, by omega⟩, ?_⟩
  have hb : big = 100000 := rfl
  rw [Int.toNat_natCast]
  refine forD_inv (fun done (s : List (Str × Int) × List SRow) => OkR s.1 s.2 ∧ 1 ≤ s.1.length ∧ s.1.length ≤ 3 + done.length ∧ 1 ≤ s.2.length ∧ s.2.length ≤ 3 + 2 * done.length) ⟨ok0, p1, by omega, s1, by omega⟩ (fun pre x post s nx e ⟨ok, a1, a2, a3, a4⟩ hnx => ?_) fun s ⟨ok, a1, a2, a3, a4⟩ => ?_
  · have hp := (intsF_split e).2
    obtain ⟨prs, srs⟩ := s
    have a1 : 1 ≤ prs.length := a1
    have a2 : prs.length ≤ 3 + pre.length := a2
    have a3 : 1 ≤ srs.length := a3
    have a4 : srs.length ≤ 3 + 2 * pre.length := a4
    have ok : OkR prs srs := ok
    refine draw_ok (by decide) (by decide) fun deed hd => ?_
    refine draw_ok (show 0 < (prs.length : Int) by omega) (Int.le_trans (show (prs.length : Int) ≤ 1000 by omega) (by decide)) fun i hi => ⟨prs[i]'(by show i < prs.length; have hi : (i : Int) < prs.length := hi; omega), atI_nat (List.getElem?_eq_getElem _), ?_⟩
    refine draw_ok (show 0 < (srs.length : Int) by omega) (Int.le_trans (show (srs.length : Int) ≤ 1000 by omega) (by decide)) fun j hj => ⟨srs[j]'(by show j < srs.length; have hj : (j : Int) < srs.length := hj; omega), atI_nat (List.getElem?_eq_getElem _), ?_⟩
    refine fresh_ok (by rw [List.length_map]; show prs.length < 59; omega) fun w hw hwn => fresh_ok (by rw [List.length_map]; show srs.length < 59; omega) fun nm hn hnn => ?_
    have hi : (i : Int) < prs.length := hi
    have hj : (j : Int) < srs.length := hj
    have mi : prs[i]'(by omega) ∈ prs := List.getElem_mem _
    have mi1 : (prs[i]'(by omega)).1 ∈ prs.map (·.1) := List.mem_map.mpr ⟨_, mi, rfl⟩
    have mj : srs[j]'(by omega) ∈ srs := List.getElem_mem _
    have pl : ∀ {α : Type} {l r : List α} {n : Nat}, l.length + r.length ≤ n → (l ++ r).length ≤ n := fun h => by rw [List.length_append]; exact h
    refine ⟨fun _ => stretched_ok (by omega) (by omega) (hnx _ ⟨ok.stretch mi1 hw hwn hn hnn, ?_, ?_, ?_, ?_⟩), fun _ => ⟨fun _ => twinned_ok (n := (prs[i]'(by omega)).2) ok (by omega) (by omega) mi (hnx _ ⟨ok.twin (n := (prs[i]'(by omega)).2) mi hw hwn, ?_, ?_, ?_, ?_⟩), fun _ => ?_⟩⟩
    · show 1 ≤ (prs ++ [(w, 0)]).length
      rw [List.length_append]; omega
    · show (prs ++ [(w, 0)]).length ≤ _
      rw [List.length_append, List.length_append]
      show prs.length + 1 ≤ 3 + (pre.length + 1)
      omega
    · show 1 ≤ (strF srs _ w nm).length
      unfold strF
      rw [List.length_append, List.length_map]; omega
    · show (strF srs _ w nm).length ≤ _
      unfold strF
      rw [List.length_append, List.length_map, List.length_append]
      show srs.length + 1 ≤ 3 + 2 * (pre.length + 1)
      omega
    · show 1 ≤ (prs ++ [(w, _)]).length
      rw [List.length_append]; omega
    · show (prs ++ [(w, _)]).length ≤ _
      rw [List.length_append, List.length_append]
      show prs.length + 1 ≤ 3 + (pre.length + 1)
      omega
    · show 1 ≤ (srs.map _).length
      rw [List.length_map]; exact a3
    · show (srs.map _).length ≤ _
      rw [List.length_map, List.length_append]
      show srs.length ≤ 3 + 2 * (pre.length + 1)
      omega
    · refine orD_ok (fun _ k hk => hk) ⟨fun _ => ?_, fun _ => ?_⟩
      · unfold m__law_echoed
        refine ⟨_, row_at ok.sn mj, by show srs.length + 1 ≤ _; omega, hnx _ ⟨ok.echo mj hn hnn, a1, ?_, ?_, ?_⟩⟩
        · show prs.length ≤ _
          rw [List.length_append]
          show prs.length ≤ 3 + (pre.length + 1)
          omega
        · show 1 ≤ (srs ++ [_]).length
          rw [List.length_append]; omega
        · show (srs ++ [_]).length ≤ _
          rw [List.length_append, List.length_append]
          show srs.length + 1 ≤ 3 + 2 * (pre.length + 1)
          omega
      · refine ⟨by rw [List.length_map]; show 1 + srs.length ≤ _; omega, fresh_ok (by rw [List.length_append, List.length_map]; show 1 + srs.length < 59; omega) fun co hc hcn => ?_⟩
        unfold m__law_detoured
        refine ⟨by show prs.length + 1 ≤ _; omega, by show srs.length + 2 ≤ _; omega, hnx _ ⟨ok.detour mi1 hw hwn hn hnn hc hcn, ?_, ?_, ?_, ?_⟩⟩
        · show 1 ≤ (prs ++ [(w, 0)]).length
          rw [List.length_append]; omega
        · show (prs ++ [(w, 0)]).length ≤ _
          rw [List.length_append, List.length_append]
          show prs.length + 1 ≤ 3 + (pre.length + 1)
          omega
        · show 1 ≤ (srs ++ [_, _]).length
          rw [List.length_append]; omega
        · show (srs ++ [_, _]).length ≤ _
          rw [List.length_append, List.length_append]
          show srs.length + 2 ≤ 3 + 2 * (pre.length + 1)
          omega
  · rw [intsF_len] at a2 a4
    obtain ⟨prs, srs⟩ := s
    have a1 : 1 ≤ prs.length := a1
    have a2 : prs.length ≤ 3 + t := a2
    have a3 : 1 ≤ srs.length := a3
    have a4 : srs.length ≤ 3 + 2 * t := a4
    have ok : OkR prs srs := ok
    dsimp only
    refine draw_ok (show 0 < (prs.length : Int) by omega) (Int.le_trans (show (prs.length : Int) ≤ 1000 by omega) (by decide)) fun i hi => ?_
    refine draw_ok (show 0 < (srs.length : Int) by omega) (Int.le_trans (show (srs.length : Int) ≤ 1000 by omega) (by decide)) fun j hj => ?_
    have e1 := rot_perm prs i
    have e2 := rot_perm srs j
    have l1 := e1.length_eq
    have l2 := e2.length_eq
    have l3 := l1
    have l4 := l2
    rw [List.length_append] at l3 l4
    exact ⟨by omega, by omega, h _ _ (ok.rot e1 e2) (by omega) (by omega) (by omega) (by omega)⟩
end
section
theorem place_rows_ok {d : PlanD} {prs : List (Str × Int)} {Q : List (Str × Int) → Prop} {X : HE → Prop} (h1 : d.places = prs.map (·.1)) (h2 : d.begin = prs.map (·.2)) (h : Q prs) : m_Plan_place_rows d Q X := by
  unfold m_Plan_place_rows
  rw [Int.toNat_natCast, h1, h2]
  have hl : (prs.map (·.1)).length = prs.length := List.length_map _
  rw [hl]
  refine mapD_ok (fun k : Int => prs.getD k.toNat (("" : Str), 0)) (fun k hk c hc => ?_) ?_
  · obtain ⟨j, hj, rfl⟩ := mem_intsF hk
    have g : prs[j]? = some (prs.getD j (("" : Str), 0)) := by
      rw [List.getD_eq_getElem?_getD, List.getElem?_eq_getElem hj]; rfl
    refine ⟨(prs.getD j (("" : Str), 0)).1, atI_nat (by rw [List.getElem?_map, g]; rfl), (prs.getD j (("" : Str), 0)).2, atI_nat (by rw [List.getElem?_map, g]; rfl), ?_⟩
    rw [Int.toNat_natCast] at hc
    exact hc
  · rw [List.nil_append]
    have e : (intsF 0 prs.length).map (fun k : Int => prs.getD k.toNat (("" : Str), 0)) = prs := by
      refine List.ext_getElem (by rw [List.length_map, intsF_len]) fun j h1 h2 => ?_
      rw [List.getElem_map]
      have e0 : (intsF 0 prs.length)[j]'(by rw [intsF_len]; exact h2) = (j : Int) := by
        unfold intsF
        rw [List.getElem_map, List.getElem_range]
        omega
      rw [e0, Int.toNat_natCast, List.getD_eq_getElem?_getD, List.getElem?_eq_getElem h2]
      rfl
    rw [e]
    exact h
theorem step_rows_ok {d : PlanD} (pk : PlanOk d) {Q : List SRow → Prop} {X : HE → Prop} (h : Q d.steps) : m_Plan_step_rows d Q X := by
  unfold m_Plan_step_rows
  show mapD (d.steps.map (·.1)) [] _ _
  rw [mapD_map]
  refine mapD_ok (fun r => r) (fun r hr k hk => ⟨_, pk.tkr hr, _, pk.gvr hr, hk⟩) ?_
  rw [List.nil_append, List.map_id']
  exact h
theorem dEq_self {α : Type} [DecidableEq α] {xs : List (Str × α)} (hn : (xs.map (·.1)).Nodup) : dEq xs xs = true := by
  unfold dEq
  rw [decide_eq_true rfl, Bool.true_and, List.all_eq_true]
  intro p hp
  exact decide_eq_true (getR_nodup hn hp)
theorem eq_self {d : PlanD} (pk : PlanOk d) {Q : Bool → Prop} {X : HE → Prop} (h : Q true) : m_Plan___eq__ d d Q X := by
  unfold m_Plan___eq__
  refine ifD_f rfl (ifD_f (by rw [decide_eq_true rfl, decide_eq_true rfl]; rfl) ?_)
  rw [decide_eq_true rfl, dEq_self (by rw [PlanOk.tkn]; exact pk.sn), dEq_self (by rw [PlanOk.gvn]; exact pk.sn)]
  exact h
theorem inOrd_congr' {ps a t : List Str} (h : ∀ y, (y ∈ a ↔ y ∈ t)) : inOrd ps a = inOrd ps t := by
  unfold inOrd
  exact List.filter_congr fun y _ => by
    by_cases q : y ∈ a
    · rw [decide_eq_true q, decide_eq_true ((h y).mp q)]
    · rw [decide_eq_false q, decide_eq_false fun z => q ((h y).mpr z)]
end
section
def wdue : List Str → List Str → Option PErr
  | _, [] => none
  | seen, w :: r => if wd w.cps.toList = true then (if w ∈ seen then some (.double w) else wdue (seen ++ [w]) r) else some (.badWord w)
theorem wdue_cons (seen : List Str) (w : Str) (r : List Str) : wdue seen (w :: r) = if wd w.cps.toList = true then (if w ∈ seen then some (.double w) else wdue (seen ++ [w]) r) else some (.badWord w) := rfl
theorem wdue_none : ∀ {ws seen : List Str}, wdue seen ws = none → (∀ w ∈ ws, Wd w ∧ w ∉ seen) ∧ ws.Nodup
  | [], _, _ => ⟨(fun w h => nomatch h), List.nodup_nil⟩
  | w :: r, seen, h => by
    rw [wdue_cons] at h
    by_cases h1 : wd w.cps.toList = true
    · rw [if_pos h1] at h
      by_cases h2 : w ∈ seen
      · rw [if_pos h2] at h; cases h
      · rw [if_neg h2] at h
        obtain ⟨a, b⟩ := wdue_none h
        refine ⟨fun y hy => ?_, List.nodup_cons.mpr ⟨fun hm => (a w hm).2 (by simp), b⟩⟩
        rcases List.mem_cons.mp hy with q | q
        · rw [q]; exact ⟨h1, h2⟩
        · exact ⟨(a y q).1, fun hm => (a y q).2 (List.mem_append_left _ hm)⟩
    · rw [if_neg h1] at h; cases h
/-- what tells of a word's fault -/
def WErr : PErr → Prop
  | .badWord _ | .double _ | .tooMany _ _ => True
  | _ => False
theorem wdue_err {e : PErr} : ∀ {ws seen : List Str}, wdue seen ws = some e → WErr e
  | [], _, h => by cases h
  | w :: r, seen, h => by
    rw [wdue_cons] at h
    split at h
    · split at h
      · cases h; trivial
      · exact wdue_err h
    · cases h; trivial
def bdue (prs : List (Str × Int)) (srs : List SRow) : Option PErr :=
  if 12 < prs.length then some (.tooMany "places" 12) else if 16 < srs.length then some (.tooMany "steps" 16) else
    match wdue [] (prs.map (·.1)) with
    | some e => some e
    | none => wdue [] (srs.map (·.1))
theorem bdue_err {prs : List (Str × Int)} {srs : List SRow} {e : PErr} (h : bdue prs srs = some e) : WErr e := by
  unfold bdue at h
  split at h
  · cases h; trivial
  · split at h
    · cases h; trivial
    · split at h
      · rename_i e2 h2
        cases h
        exact wdue_err h2
      · exact wdue_err h
theorem bdue_none {prs : List (Str × Int)} {srs : List SRow} (h : bdue prs srs = none) : prs.length ≤ 12 ∧ srs.length ≤ 16 ∧ wdue [] (prs.map (·.1)) = none ∧ wdue [] (srs.map (·.1)) = none := by
  unfold bdue at h
  split at h
  · cases h
  · split at h
    · cases h
    · split at h
      · cases h
      · rename_i h2
        exact ⟨by omega, by omega, h2, h⟩
theorem bdue_congr {prs : List (Str × Int)} {srs srs' : List SRow} (h : srs.map (·.1) = srs'.map (·.1)) : bdue prs srs = bdue prs srs' := by
  have hl := congrArg List.length h
  rw [List.length_map, List.length_map] at hl
  unfold bdue
  rw [hl, h]
/-- the taken and given places of a row are right -/
def TkOk (places : List Str) (r : SRow) : Prop := r.2.1 ≠ [] ∧ r.2.1.Nodup ∧ (∀ y ∈ r.2.1, y ∈ places) ∧ r.2.2.Nodup ∧ (∀ y ∈ r.2.2, y ∈ places)
theorem placesDue_w : ∀ {prs : List (Str × Int)} {seen : List Str}, (∀ r ∈ prs, 0 ≤ r.2 ∧ r.2 ≤ 99) → placesDue seen prs = wdue seen (prs.map (·.1))
  | [], _, _ => rfl
  | (w, n) :: r, seen, h => by
    rw [placesDue_cons, List.map_cons, wdue_cons, if_pos (h (w, n) (List.mem_cons_self ..)), placesDue_w (fun q hq => h q (List.mem_cons_of_mem _ hq))]
theorem stepsDue_w {places : List Str} : ∀ {srs : List SRow} {seen : List Str}, (∀ r ∈ srs, TkOk places r) → stepsDue places seen srs = wdue seen (srs.map (·.1))
  | [], _, _ => rfl
  | s :: r, seen, h => by
    obtain ⟨a1, a2, a3, a4, a5⟩ := h s (List.mem_cons_self ..)
    have e1 : chk places [] s.2.1 = none := chk_none.mpr ⟨a2, fun y hy => ⟨a3 y hy, fun z => nomatch z⟩⟩
    have e2 : chk places [] s.2.2 = none := chk_none.mpr ⟨a4, fun y hy => ⟨a5 y hy, fun z => nomatch z⟩⟩
    rw [stepsDue_cons, List.map_cons, wdue_cons]
    unfold stepDue
    rw [e1, e2, if_neg a1]
    by_cases h1 : wd s.1.cps.toList = true
    · rw [if_pos h1, if_pos h1]
      by_cases h2 : s.1 ∈ seen
      · rw [if_pos h2, if_pos h2]
      · rw [if_neg h2, if_neg h2]
        exact stepsDue_w fun q hq => h q (List.mem_cons_of_mem _ hq)
    · rw [if_neg h1, if_neg h1]
theorem planDue_b {prs : List (Str × Int)} {srs : List SRow} (hp : ∀ r ∈ prs, 0 ≤ r.2 ∧ r.2 ≤ 99) (hs : wdue [] (prs.map (·.1)) = none → ∀ r ∈ srs, TkOk (prs.map (·.1)) r) : planDue prs srs = bdue prs srs := by
  unfold planDue bdue
  rw [placesDue_w hp]
  split
  · rfl
  · split
    · rfl
    · cases e : wdue [] (prs.map (·.1)) with
      | some y => rfl
      | none => exact stepsDue_w (hs e)
theorem okR_b {prs : List (Str × Int)} {srs : List SRow} (hp : ∀ r ∈ prs, 0 ≤ r.2 ∧ r.2 ≤ 99) (hs : ∀ r ∈ srs, TkOk (prs.map (·.1)) r) (h : bdue prs srs = none) : OkRows prs srs := by
  obtain ⟨l1, l2, h1, h2⟩ := bdue_none h
  obtain ⟨a1, a2⟩ := wdue_none h1
  obtain ⟨b1, b2⟩ := wdue_none h2
  exact ⟨fun r hr => ⟨(a1 _ (List.mem_map.mpr ⟨r, hr, rfl⟩)).1, hp r hr⟩, a2, fun r hr => ⟨(b1 _ (List.mem_map.mpr ⟨r, hr, rfl⟩)).1, hs r hr⟩, b2, l1, l2⟩
def encDue : Option PErr → PyData
  | none => XDat.enc (r := z1 yS) ("ok" : Str)
  | some (.badWord w) => XDat.enc (r := z2 yS yS) (("BadWord" : Str), w)
  | some (.double w) => XDat.enc (r := z2 yS yS) (("DoubleName" : Str), w)
  | some (.unknown w) => XDat.enc (r := z2 yS yS) (("UnknownName" : Str), w)
  | some (.tooMany k l) => XDat.enc (r := z3 yS yS zI) (("TooMany" : Str), k, l)
  | some _ => .none
theorem xeq_rfl (x : PyData) : xeq x x = true := xeq_t.mpr rfl
theorem enc_isok {e : Option PErr} : xeq (encDue e) (XDat.enc (r := z1 yS) ("ok" : Str)) = e.isNone := by
  have no : ∀ {x : PyData}, x ≠ XDat.enc (r := z1 yS) ("ok" : Str) → xeq x (XDat.enc (r := z1 yS) ("ok" : Str)) = false := fun {x} h => by
    cases e : xeq x (XDat.enc (r := z1 yS) ("ok" : Str)) with
    | false => rfl
    | true => exact absurd (xeq_t.mp e) h
  have n2 : ∀ a b : Str, (PyData.tuple [.str a, .str b]) ≠ .tuple [.str ("ok" : Str)] := fun a b h => by injection h with h; cases h
  have n3 : ∀ (a b : Str) (c : Int), (PyData.tuple [.str a, .str b, .int c]) ≠ .tuple [.str ("ok" : Str)] := fun a b c h => by injection h with h; cases h
  cases e with
  | none => exact xeq_rfl _
  | some e =>
    cases e with
    | badWord w => exact no (n2 _ _)
    | double w => exact no (n2 _ _)
    | unknown w => exact no (n2 _ _)
    | tooMany k l => exact no (n3 _ _ _)
    | badNumber n => exact no (fun h => by cases h)
    | empty n => exact no (fun h => by cases h)
theorem SIG_app : SIG = LETTERS.cps.toList ++ DIGITS.cps.toList := by decide +kernel
theorem good_ok {z : Str} {Q : Bool → Prop} {X : HE → Prop} (h : Q (wd z.cps.toList)) : m__law_good z Q X := by
  unfold m__law_good
  have el : z.length = z.cps.toList.length := rfl
  by_cases hb : 1 ≤ z.length ∧ z.length ≤ 12
  · have e1 : (!(decide ((1 : Int) ≤ ((z).length : Int)) && decide (((z).length : Int) ≤ (12 : Int)))) = false := by
      rw [decide_eq_true (by omega), decide_eq_true (by omega)]; rfl
    rw [e1]
    refine ⟨fun z => Bool.noConfusion z, fun _ => ?_⟩
    cases e2 : z.cps.toList with
    | nil => rw [el, e2] at hb; exact absurd hb.1 (by decide)
    | cons c r =>
      refine ⟨c, atI_0, rfl, ?_⟩
      have e3 : decide ((⟨#[c]⟩ : Str) ∈ sgnL ("abcdefghijklmnopqrstuvwxyz" : Str)) = decide (c ∈ LETTERS.cps.toList) := decide_eq_decide.mpr (sgnL_mem (c := c))
      rw [e3]
      have e4 : wd (c :: r) = (decide (c ∈ LETTERS.cps.toList) && (c :: r).all okc) := by
        unfold L2.wd
        rw [decide_eq_true (by rw [← e2, ← el]; exact hb), Bool.true_and]
        rfl
      rw [e2, e4] at h
      by_cases hc : c ∈ LETTERS.cps.toList
      · rw [decide_eq_true hc] at h ⊢
        refine ifD_f rfl ?_
        refine mapD_ok (fun y => decide (y ∈ sgnL ("abcdefghijklmnopqrstuvwxyz0123456789" : Str))) (fun y hy k hk => ⟨?_, hk⟩) ?_
        · unfold sgnL at hy
          obtain ⟨d, _, rfl⟩ := List.mem_map.mp hy
          rfl
        · rw [List.nil_append, all_id]
          have e5 : (sgnL z).all (fun y => decide (y ∈ sgnL ("abcdefghijklmnopqrstuvwxyz0123456789" : Str))) = (c :: r).all okc := by
            unfold sgnL
            rw [e2, List.all_map]
            refine congrArg (fun f => List.all (c :: r) f) (funext fun d => ?_)
            show decide (sgn d ∈ sgnL _) = okc d
            have e6 : decide (sgn d ∈ sgnL ("abcdefghijklmnopqrstuvwxyz0123456789" : Str)) = decide (d ∈ SIG) := decide_eq_decide.mpr sgnL_mem
            rw [e6, SIG_app]
            unfold okc
            rw [← Bool.decide_or]
            exact decide_eq_decide.mpr List.mem_append
          rw [e5]
          exact h
      · rw [decide_eq_false hc] at h ⊢
        exact ifD_t rfl h
  · have e1 : (!(decide ((1 : Int) ≤ ((z).length : Int)) && decide (((z).length : Int) ≤ (12 : Int)))) = true := by
      rw [← Bool.decide_and, decide_eq_false (by omega)]; rfl
    rw [e1]
    have e2 : wd z.cps.toList = false := by
      unfold L2.wd
      rw [decide_eq_false (by rw [← el]; exact hb)]; rfl
    rw [e2] at h
    exact ⟨fun _ => ifD_t rfl h, fun z => Bool.noConfusion z⟩
theorem wdue_ok {ws : List Str} {Q : PyData → Prop} {X : HE → Prop} (h : Q (encDue (wdue [] ws))) : m__law_words_due ws Q X := by
  unfold m__law_words_due
  rw [Int.toNat_natCast]
  refine forD_inv (fun done (_ : Unit) => wdue [] ws = wdue (ws.take done.length) (ws.drop done.length)) rfl (fun pre x post s nx e hs hnx => ?_) fun s hs => ?_
  · obtain ⟨rfl, hp⟩ := intsF_split e
    have hx : ws[pre.length]? = some (ws[pre.length]'hp) := List.getElem?_eq_getElem hp
    have hx := atI_nat hx
    rw [List.drop_eq_getElem_cons hp, wdue_cons] at hs
    refine ⟨_, hx, good_ok ⟨fun hc => ?_, fun hc => ?_⟩⟩
    · rw [if_neg (by cases hw : wd (ws[pre.length]'hp).cps.toList with | true => rw [hw] at hc; cases hc | false => exact Bool.false_ne_true)] at hs
      rw [hs] at h
      exact ⟨_, hx, h⟩
    · rw [if_pos (by cases hw : wd (ws[pre.length]'hp).cps.toList with | true => rfl | false => rw [hw] at hc; cases hc)] at hs
      refine ⟨_, hx, ⟨fun hm => ?_, fun hm => hnx _ ?_⟩⟩
      · have hm := of_decide_eq_true hm
        rw [cutX_take] at hm
        rw [if_pos hm] at hs
        rw [hs] at h
        exact ⟨_, hx, h⟩
      · have hm := of_decide_eq_false hm
        rw [cutX_take] at hm
        rw [if_neg hm] at hs
        rw [hs, List.length_append, List.take_append_getElem hp]
        rfl
  · rw [intsF_len, List.drop_length] at hs
    rw [hs] at h
    exact h
theorem bdue_ok {prs : List (Str × Int)} {srs : List SRow} {Q : PyData → Prop} {X : HE → Prop} (h : Q (encDue (bdue prs srs))) : m__law_built_due (prs, srs) Q X := by
  unfold m__law_built_due
  unfold bdue at h
  refine ⟨fun hc => ?_, fun hc => ?_⟩
  · have hc := of_decide_eq_true hc
    rw [if_pos (by have hc : (prs.length : Int) > 12 := hc; omega)] at h
    exact h
  · have hc := of_decide_eq_false hc
    rw [if_neg (by have hc : ¬ (prs.length : Int) > 12 := hc; omega)] at h
    refine ⟨fun hd => ?_, fun hd => ?_⟩
    · have hd := of_decide_eq_true hd
      rw [if_pos (by have hd : (srs.length : Int) > 16 := hd; omega)] at h
      exact h
    · have hd := of_decide_eq_false hd
      rw [if_neg (by have hd : ¬ (srs.length : Int) > 16 := hd; omega)] at h
      refine wdue_ok ?_
      show ifD (!xeq (encDue (wdue [] (prs.map (·.1)))) _) _ _
      rw [enc_isok]
      cases e : wdue [] (prs.map (·.1)) with
      | none =>
        rw [e] at h
        exact ifD_f rfl (wdue_ok h)
      | some y =>
        rw [e] at h
        exact ifD_t rfl h
theorem OkR.ord {prs : List (Str × Int)} {srs : List SRow} (ok : OkR prs srs) : OkR prs (planOf prs srs).steps := by
  refine ⟨ok.pw, ok.pn, fun r hr => ?_, ?_⟩
  · obtain ⟨q, hq, rfl⟩ := List.mem_map.mp hr
    obtain ⟨a0, a1, a2, a3, a4, a5⟩ := ok.sw q hq
    refine ⟨a0, fun z => ?_, inOrd_nodup ok.pn, fun y hy => (inOrd_sub hy).1, inOrd_nodup ok.pn, fun y hy => (inOrd_sub hy).1⟩
    obtain ⟨y, hy⟩ := List.exists_mem_of_ne_nil _ a1
    have hm : y ∈ inOrd (prs.map (·.1)) q.2.1 := List.mem_filter.mpr ⟨a3 y hy, decide_eq_true hy⟩
    have z : inOrd (prs.map (·.1)) q.2.1 = [] := z
    rw [z] at hm
    cases hm
  · show ((srs.map fun s => (s.1, inOrd (prs.map (·.1)) s.2.1, inOrd (prs.map (·.1)) s.2.2)).map (·.1)).Nodup
    rw [List.map_map]
    exact ok.sn
theorem ord_names {prs : List (Str × Int)} {srs : List SRow} : (planOf prs srs).steps.map (·.1) = srs.map (·.1) := by
  show (srs.map fun s => (s.1, inOrd (prs.map (·.1)) s.2.1, inOrd (prs.map (·.1)) s.2.2)).map (·.1) = _
  rw [List.map_map]
  rfl
theorem mem_ord {ps l : List Str} (h : ∀ y ∈ l, y ∈ ps) (y : Str) : y ∈ inOrd ps l ↔ y ∈ l := ⟨fun q => (inOrd_sub q).2, fun q => List.mem_filter.mpr ⟨h y q, decide_eq_true q⟩⟩
theorem is_plan_ok {prs : List (Str × Int)} {srs : List SRow} (ok : OkRows prs srs) {Q : Bool → Prop} {X : HE → Prop} (h : Q true) : m__law_is_plan (planOf prs srs) (prs, srs) Q X := by
  unfold m__law_is_plan
  have hb : big = 100000 := rfl
  refine ifD_f ?_ (ifD_f ?_ ?_)
  · have e2 : (planOf prs srs).names = srs.map (·.1) := ord_names
    rw [e2]
    show ((!decide (prs.map (·.1) = prs.map fun x5 => x5.1)) || (!decide (srs.map (·.1) = srs.map fun x3 => x3.1))) = false
    rw [decide_eq_true rfl, decide_eq_true rfl]
    rfl
  · show (!decide (prs.map (·.2) = prs.map fun x7 => x7.2)) = false
    rw [decide_eq_true rfl]
    rfl
  · refine place_rows_ok rfl rfl ?_
    show andD (decide (prs = prs)) _ _
    refine andD_ok (c := true) (fun _ k hk => step_rows_ok (planDue_ok ok.due) ?_) ?_
    · unfold m__law_ordered
      intro words ew
      refine forD_push (fun s : SRow => (s.1, inOrd (prs.map (·.1)) s.2.1, inOrd (prs.map (·.1)) s.2.2)) (N := big) (fun x hx s nx hl hn => ⟨hl, ?_⟩) (by show 0 + srs.length ≤ _; have := ok.s16; omega) ?_
      · rw [ew, List.map_id', List.map_id']
        exact hn
      · rw [List.nil_append]
        show k (decide ((planOf prs srs).steps = (planOf prs srs).steps))
        rw [decide_eq_true rfl]
        exact hk
    · rw [decide_eq_true rfl]
      exact h
theorem law_plan_ok {prs : List (Str × Int)} {srs : List SRow} (ok : OkRows prs srs) {Q : PlanD → Prop} {X : HE → Prop} (h : Q (planOf prs srs)) : m__law_plan (prs, srs) Q X := by
  unfold m__law_plan m__law_copy
  have e1 : (prs.map fun x1 => (x1.1, x1.2)) = prs := List.map_id' _
  have e2 : (srs.map fun x3 => (x3.1, x3.2.1, x3.2.2)) = srs := List.map_id' _
  show mk_Plan (prs.map fun x1 => (x1.1, x1.2)) (srs.map fun x3 => (x3.1, x3.2.1, x3.2.2)) _ _
  rw [e1, e2]
  exact ⟨ok.B, fun _ => h, fun y hy => by rw [ok.due] at hy; cases hy⟩
end
section
theorem strF_tk {prs : List (Str × Int)} {srs : List SRow} (ok : OkR prs srs) {p w nm : Str} {n : Int} (hp : p ∈ prs.map (·.1)) (hn : w ∉ prs.map (·.1)) : ∀ r ∈ strF srs p w nm, TkOk ((prs ++ [(w, n)]).map (·.1)) r := by
  have mw : w ∈ (prs ++ [(w, n)]).map (·.1) := by rw [List.map_append]; exact List.mem_append_right _ (List.mem_singleton.mpr rfl)
  have mp : ∀ y ∈ prs.map (·.1), y ∈ (prs ++ [(w, n)]).map (·.1) := fun y hy => by rw [List.map_append]; exact List.mem_append_left _ hy
  intro r hr
  rcases List.mem_append.mp hr with q | q
  · obtain ⟨s, hs, rfl⟩ := List.mem_map.mp q
    obtain ⟨a0, a1, a2, a3, a4, a5⟩ := ok.sw s hs
    refine ⟨fun z => a1 (List.map_eq_nil_iff.mp z), nodup_sub a2 fun z => hn (a3 w z), fun y hy => ?_, a4, fun y hy => mp y (a5 y hy)⟩
    obtain ⟨z, hz, rfl⟩ := List.mem_map.mp hy
    cases decide (z = p)
    · exact mp z (a3 z hz)
    · exact mw
  · rw [List.mem_singleton.mp q]
    exact ⟨by simp, by simp, fun y hy => by rw [List.mem_singleton.mp hy]; exact mp p hp, by simp, fun y hy => by rw [List.mem_singleton.mp hy]; exact mw⟩
theorem twF_tk {prs : List (Str × Int)} {srs : List SRow} (ok : OkR prs srs) {p w : Str} {n : Int} (hn : w ∉ prs.map (·.1)) : ∀ r ∈ srs.map (twT p w), TkOk ((prs ++ [(w, n)]).map (·.1)) r := by
  have mw : w ∈ (prs ++ [(w, n)]).map (·.1) := by rw [List.map_append]; exact List.mem_append_right _ (List.mem_singleton.mpr rfl)
  have mp : ∀ y ∈ prs.map (·.1), y ∈ (prs ++ [(w, n)]).map (·.1) := fun y hy => by rw [List.map_append]; exact List.mem_append_left _ hy
  intro r hr
  obtain ⟨q, hq, rfl⟩ := List.mem_map.mp hr
  obtain ⟨a0, a1, a2, a3, a4, a5⟩ := ok.sw q hq
  refine ⟨fun z => a1 (List.append_eq_nil_iff.mp z).1, addF_nodup a2 fun z => hn (a3 w z), fun y hy => ?_, addF_nodup a4 fun z => hn (a5 w z), fun y hy => ?_⟩
  · rcases addF_mem hy with z | rfl
    · exact mp y (a3 y z)
    · exact mw
  · rcases addF_mem hy with z | rfl
    · exact mp y (a5 y z)
    · exact mw
theorem strF_B {prs : List (Str × Int)} {srs : List SRow} (ok : OkRows prs srs) {p w nm : Str} {n : Int} (hp : p.length ≤ 1000) (hw : w.length ≤ 1000) (hm : nm.length ≤ 1000) : RowsB (prs ++ [(w, n)]) (strF srs p w nm) := by
  obtain ⟨b1, b2⟩ := ok.B
  refine ⟨fun r hr => ?_, fun r hr => ?_⟩
  · rcases List.mem_append.mp hr with q | q
    · exact b1 r q
    · rw [List.mem_singleton.mp q]; exact hw
  · rcases List.mem_append.mp hr with q | q
    · obtain ⟨s, hs, rfl⟩ := List.mem_map.mp q
      obtain ⟨a1, a2, a3, a4, a5⟩ := b2 s hs
      refine ⟨a1, by show (s.2.1.map _).length ≤ _; rw [List.length_map]; exact a2, a3, fun y hy => ?_, a5⟩
      obtain ⟨z, hz, rfl⟩ := List.mem_map.mp hy
      cases decide (z = p)
      · exact a4 z hz
      · exact hw
    · rw [List.mem_singleton.mp q]
      exact ⟨hm, by show 1 ≤ 1000; decide, by show 1 ≤ 1000; decide, fun y hy => by rw [List.mem_singleton.mp hy]; exact hp, fun y hy => by rw [List.mem_singleton.mp hy]; exact hw⟩
theorem twF_B {prs : List (Str × Int)} {srs : List SRow} (ok : OkRows prs srs) {p w : Str} {n : Int} (hw : w.length ≤ 1000) : RowsB (prs ++ [(w, n)]) (srs.map (twT p w)) := by
  obtain ⟨b1, b2⟩ := ok.B
  refine ⟨fun r hr => ?_, fun r hr => ?_⟩
  · rcases List.mem_append.mp hr with q | q
    · exact b1 r q
    · rw [List.mem_singleton.mp q]; exact hw
  · obtain ⟨s, hs, rfl⟩ := List.mem_map.mp hr
    obtain ⟨a1, a2, a3, a4, a5⟩ := b2 s hs
    obtain ⟨_, _, c2, c3, c4, c5⟩ := ok.sw s hs
    have l1 := ok.len c2 c3
    have l2 := ok.len c4 c5
    refine ⟨a1, ?_, ?_, fun y hy => ?_, fun y hy => ?_⟩
    · show (addF p w s.2.1).length ≤ _
      have := addF_len (p := p) (w := w) (l := s.2.1); omega
    · show (addF p w s.2.2).length ≤ _
      have := addF_len (p := p) (w := w) (l := s.2.2); omega
    · rcases addF_mem hy with z | rfl
      · exact a4 y z
      · exact hw
    · rcases addF_mem hy with z | rfl
      · exact a5 y z
      · exact hw
theorem planOf_congr {prs : List (Str × Int)} {s1 s2 : List SRow} (h : Paired (fun (a b : SRow) => a.1 = b.1 ∧ (∀ y, y ∈ a.2.1 ↔ y ∈ b.2.1) ∧ ∀ y, y ∈ a.2.2 ↔ y ∈ b.2.2) s1 s2) : planOf prs s1 = planOf prs s2 := by
  have e : s1.map (fun s : SRow => (s.1, inOrd (prs.map (·.1)) s.2.1, inOrd (prs.map (·.1)) s.2.2)) = s2.map (fun s : SRow => (s.1, inOrd (prs.map (·.1)) s.2.1, inOrd (prs.map (·.1)) s.2.2)) := by
    induction h with
    | nil => rfl
    | cons a _ ih =>
      obtain ⟨h1, h2, h3⟩ := a
      rw [List.map_cons, List.map_cons, ih, h1, inOrd_congr' h2, inOrd_congr' h3]
  show PlanD.mk _ _ _ = PlanD.mk _ _ _
  rw [e]
theorem paired_map {α β γ : Type} {R : β → γ → Prop} {f : α → β} {g : α → γ} : ∀ {l : List α}, (∀ x ∈ l, R (f x) (g x)) → Paired R (l.map f) (l.map g)
  | [], _ => .nil
  | a :: l, h => .cons (h a (List.mem_cons_self ..)) (paired_map fun x hx => h x (List.mem_cons_of_mem _ hx))
theorem strF_plan {prs : List (Str × Int)} {srs : List SRow} (ok : OkR prs srs) {P : List (Str × Int)} {p w nm : Str} : planOf P (strF (planOf prs srs).steps p w nm) = planOf P (strF srs p w nm) := by
  refine planOf_congr (Paired.app ?_ (.cons ⟨rfl, fun _ => .rfl, fun _ => .rfl⟩ .nil))
  show Paired _ ((srs.map fun s : SRow => (s.1, inOrd (prs.map (·.1)) s.2.1, inOrd (prs.map (·.1)) s.2.2)).map (strT p w)) _
  rw [List.map_map]
  refine paired_map fun s hs => ?_
  obtain ⟨_, _, _, a3, _, a5⟩ := ok.sw s hs
  refine ⟨rfl, fun y => ?_, fun y => mem_ord a5 y⟩
  show y ∈ (inOrd (prs.map (·.1)) s.2.1).map _ ↔ y ∈ s.2.1.map _
  rw [List.mem_map, List.mem_map]
  exact ⟨fun ⟨z, hz, e⟩ => ⟨z, (mem_ord a3 z).mp hz, e⟩, fun ⟨z, hz, e⟩ => ⟨z, (mem_ord a3 z).mpr hz, e⟩⟩
theorem mem_addF {p w y : Str} {l : List Str} : y ∈ addF p w l ↔ y ∈ l ∨ (p ∈ l ∧ y = w) := by
  unfold addF
  rw [List.mem_append]
  by_cases q : p ∈ l
  · rw [decide_eq_true q]
    exact ⟨fun h => h.imp_right fun z => ⟨q, List.mem_singleton.mp z⟩, fun h => h.imp_right fun z => List.mem_singleton.mpr z.2⟩
  · rw [decide_eq_false q]
    exact ⟨fun h => h.elim .inl (fun z => nomatch z), fun h => h.elim .inl fun z => absurd z.1 q⟩
theorem twF_plan {prs : List (Str × Int)} {srs : List SRow} (ok : OkR prs srs) {P : List (Str × Int)} {p w : Str} : planOf P ((planOf prs srs).steps.map (twT p w)) = planOf P (srs.map (twT p w)) := by
  refine planOf_congr ?_
  show Paired _ ((srs.map fun s : SRow => (s.1, inOrd (prs.map (·.1)) s.2.1, inOrd (prs.map (·.1)) s.2.2)).map (twT p w)) _
  rw [List.map_map]
  refine paired_map fun s hs => ?_
  obtain ⟨_, _, _, a3, _, a5⟩ := ok.sw s hs
  refine ⟨rfl, fun y => ?_, fun y => ?_⟩
  · show y ∈ addF p w (inOrd (prs.map (·.1)) s.2.1) ↔ y ∈ addF p w s.2.1
    rw [mem_addF, mem_addF, mem_ord a3, mem_ord a3]
  · show y ∈ addF p w (inOrd (prs.map (·.1)) s.2.2) ↔ y ∈ addF p w s.2.2
    rw [mem_addF, mem_addF, mem_ord a5, mem_ord a5]
theorem num_of {prs : List (Str × Int)} {p : Str} (hp : p ∈ prs.map (·.1)) : ∃ n, (p, n) ∈ prs := by
  obtain ⟨r, hr, rfl⟩ := List.mem_map.mp hp
  exact ⟨r.2, hr⟩
theorem idx_num {prs : List (Str × Int)} {p : Str} {n : Int} (hn : (prs.map (·.1)).Nodup) (hp : (p, n) ∈ prs) : (prs.map (·.2))[(prs.map (·.1)).idxOf p]? = some n := by
  induction prs with
  | nil => cases hp
  | cons a l ih =>
    rw [List.map_cons, List.nodup_cons] at hn
    rw [List.map_cons, List.map_cons]
    rcases List.mem_cons.mp hp with q | q
    · subst q
      rw [List.idxOf_cons_self]
      rfl
    · have ne : a.1 ≠ p := fun e => hn.1 (by rw [e]; exact List.mem_map.mpr ⟨_, q, rfl⟩)
      have e : (a.1 :: l.map (·.1)).idxOf p = (l.map (·.1)).idxOf p + 1 := by
        rw [List.idxOf_cons, beq_eq_false_iff_ne.mpr ne]
        rfl
      rw [e]
      exact ih hn.2 q
/-- what comes of a call: a plan, or the error that is due -/
def Due (e : Option PErr) (d : PlanD) (Q : PlanD → Prop) (X : HE → Prop) : Prop := (e = none → Q d) ∧ ∀ y, e = some y → X (heOf y)
theorem stretch_ok {prs : List (Str × Int)} {srs : List SRow} (ok : OkRows prs srs) {p w nm : Str} {Q : PlanD → Prop} {X : HE → Prop} (hw : w.length ≤ 1000) (hm : nm.length ≤ 1000) (hX : p ∉ prs.map (·.1) → X (.unknown p))
    (h : p ∈ prs.map (·.1) → Due (bdue (prs ++ [(w, 0)]) (strF srs p w nm)) (planOf (prs ++ [(w, 0)]) (strF srs p w nm)) Q X) : m_stretch (planOf prs srs) p w nm Q X := by
  unfold m_stretch m_check_place
  have hb : big = 100000 := rfl
  by_cases hp : p ∈ prs.map (·.1)
  · refine ifD_f (by show (!decide (p ∈ prs.map (·.1))) = false; rw [decide_eq_true hp]; rfl) ?_
    refine step_rows_ok (planDue_ok ok.due) ?_
    have l16 : (planOf prs srs).steps.length ≤ 16 := (planDue_ok ok.due).s16
    have l12 := ok.p12
    refine forD_push (strT p w) (N := big) (fun x hx s nx hl hn => ⟨hl, hn⟩) (by show 0 + _ ≤ _; omega) ?_
    rw [List.nil_append]
    refine ⟨by rw [List.length_map]; omega, place_rows_ok rfl rfl ⟨by show prs.length + 1 ≤ _; omega, ?_⟩⟩
    have okr := ok.r.ord
    have ok2 : OkRows prs (planOf prs srs).steps := okr.rows l12 l16
    have pl : p.length ≤ 1000 := by
      obtain ⟨r, hr, rfl⟩ := List.mem_map.mp hp
      exact ok2.B.1 r hr
    have eb : bdue (prs ++ [(w, 0)]) (strF (planOf prs srs).steps p w nm) = bdue (prs ++ [(w, 0)]) (strF srs p w nm) := bdue_congr (by
      unfold strF
      rw [List.map_append, List.map_append, List.map_map, List.map_map]
      congr 1
      exact ord_names)
    have ed := planDue_b (prs := prs ++ [(w, 0)]) (srs := strF (planOf prs srs).steps p w nm) (fun r hr => (List.mem_append.mp hr).elim (fun q => (ok.pw r q).2) fun q => by rw [List.mem_singleton.mp q]; exact ⟨Int.le_refl 0, show (0 : Int) ≤ 99 by decide⟩) (fun hn => strF_tk okr hp fun hm => by
      have h2 := (wdue_none hn).2
      rw [List.map_append, List.nodup_append] at h2
      exact h2.2.2 w hm w (List.mem_singleton.mpr rfl) rfl)
    obtain ⟨h1, h2⟩ := h hp
    refine ⟨strF_B ok2 pl hw hm, fun q => ?_, fun y q => ?_⟩
    · rw [show planOf (prs ++ [(w, 0)]) ((planOf prs srs).steps.map (strT p w) ++ [(nm, [p], [w])]) = planOf (prs ++ [(w, 0)]) (strF srs p w nm) from strF_plan ok.r]
      exact h1 (by rw [← eb, ← ed]; exact q)
    · exact h2 y (by rw [← eb, ← ed]; exact q)
  · exact ifD_t (by show (!decide (p ∈ prs.map (·.1))) = true; rw [decide_eq_false hp]; rfl) (hX hp)
theorem with_place_ok {l : List Str} {p w : Str} (hl : l.length ≤ 1000) {Q : List Str → Prop} {X : HE → Prop} (h : Q (addF p w l)) : m_with_place l p w Q X := by
  unfold m_with_place
  have hb : big = 100000 := rfl
  unfold addF at h
  by_cases q : p ∈ l
  · rw [decide_eq_true q] at h
    exact ifD_t (decide_eq_true q) ⟨by show l.length + 1 ≤ _; omega, h⟩
  · rw [decide_eq_false q] at h
    have h : Q (l ++ []) := h
    rw [List.append_nil] at h
    exact ifD_f (decide_eq_false q) h
theorem twin_ok {prs : List (Str × Int)} {srs : List SRow} (ok : OkRows prs srs) {p w : Str} {Q : PlanD → Prop} {X : HE → Prop} (hw : w.length ≤ 1000) (hX : p ∉ prs.map (·.1) → X (.unknown p))
    (h : ∀ n, (p, n) ∈ prs → Due (bdue (prs ++ [(w, n)]) (srs.map (twT p w))) (planOf (prs ++ [(w, n)]) (srs.map (twT p w))) Q X) : m_twin (planOf prs srs) p w Q X := by
  unfold m_twin m_check_place
  have hb : big = 100000 := rfl
  by_cases hp : p ∈ prs.map (·.1)
  · obtain ⟨n, hn⟩ := num_of hp
    refine ifD_f (by show (!decide (p ∈ prs.map (·.1))) = false; rw [decide_eq_true hp]; rfl) ?_
    refine step_rows_ok (planDue_ok ok.due) ?_
    have l16 : (planOf prs srs).steps.length ≤ 16 := (planDue_ok ok.due).s16
    have l12 := ok.p12
    have okr := ok.r.ord
    have ok2 : OkRows prs (planOf prs srs).steps := okr.rows l12 l16
    refine forD_push (twT p w) (N := big) (fun x hx s nx hl hnx => ?_) (by show 0 + _ ≤ _; omega) ?_
    · obtain ⟨_, a1, a2, a3, _⟩ := ok2.B.2 x hx
      exact with_place_ok a1 (with_place_ok a2 ⟨hl, hnx⟩)
    rw [List.nil_append]
    refine place_rows_ok rfl rfl ?_
    unfold m_Plan___getitem__
    refine ifD_f (by show (!decide (p ∈ prs.map (·.1))) = false; rw [decide_eq_true hp]; rfl) ⟨fun z => ?_, hp, n, atI_nat (idx_num ok.pn hn), by show prs.length + 1 ≤ _; omega, ?_⟩
    · have z : prs.map (·.1) = [] := z
      rw [z] at hp
      cases hp
    have eb : bdue (prs ++ [(w, n)]) ((planOf prs srs).steps.map (twT p w)) = bdue (prs ++ [(w, n)]) (srs.map (twT p w)) := bdue_congr (by
      rw [List.map_map, List.map_map]
      exact ord_names)
    have ed := planDue_b (prs := prs ++ [(w, n)]) (srs := (planOf prs srs).steps.map (twT p w)) (fun r hr => (List.mem_append.mp hr).elim (fun q => (ok.pw r q).2) fun q => by rw [List.mem_singleton.mp q]; exact (ok.pw _ hn).2) (fun hn => twF_tk okr fun hm => by
      have h2 := (wdue_none hn).2
      rw [List.map_append, List.nodup_append] at h2
      exact h2.2.2 w hm w (List.mem_singleton.mpr rfl) rfl)
    obtain ⟨h1, h2⟩ := h n hn
    refine ⟨twF_B ok2 hw, fun q => ?_, fun y q => ?_⟩
    · rw [twF_plan ok.r]
      exact h1 (by rw [← eb, ← ed]; exact q)
    · exact h2 y (by rw [← eb, ← ed]; exact q)
  · exact ifD_t (by show (!decide (p ∈ prs.map (·.1))) = true; rw [decide_eq_false hp]; rfl) (hX hp)
end
section
theorem bad_len : ∀ z ∈ ([("" : Str), ("A" : Str), ("1a" : Str), ("a_b" : Str), ("a b" : Str), ("abcdefghijklm" : Str), ("aB" : Str)]), z.length ≤ 100 := by decide
theorem new_ok {used : List Str} {Q : Str → Prop} {X : HE → Prop} (h0 : used ≠ []) (hl : used.length < 59) (hu : ∀ y ∈ used, y.length ≤ 100) (h : ∀ z : Str, z.length ≤ 100 → Q z) : m__law_new used Q X := by
  unfold m__law_new
  refine draw_ok (by decide) (by decide) fun v hv => ⟨fun _ => draw_ok (by decide) (by decide) fun i hi => ?_, fun _ => ⟨fun _ => ?_, fun _ => fresh_ok hl fun z hz _ => h z (Nat.le_trans hz.len (by decide))⟩⟩
  · have hi : i < 7 := by omega
    have hi : i < ([("" : Str), ("A" : Str), ("1a" : Str), ("a_b" : Str), ("a b" : Str), ("abcdefghijklm" : Str), ("aB" : Str)]).length := hi
    exact ⟨_, atI_nat (List.getElem?_eq_getElem hi), h _ (bad_len _ (List.getElem_mem _))⟩
  · have hp := pos_of_ne h0
    refine draw_ok (by omega) (Int.le_trans (show (used.length : Int) ≤ 1000 by omega) (by decide)) fun i hi => ⟨used[i]'(by omega), atI_nat (List.getElem?_eq_getElem (by omega)), h _ (hu _ (List.getElem_mem _))⟩
theorem old_ok {used : List Str} {Q : Str → Prop} {X : HE → Prop} (h0 : used ≠ []) (hl : used.length < 59) (hu : ∀ y ∈ used, y.length ≤ 100) (h : ∀ z : Str, z.length ≤ 100 → Q z) : m__law_old used Q X := by
  unfold m__law_old
  refine draw_ok (by decide) (by decide) fun v hv => ⟨fun _ => fresh_ok hl fun z hz _ => h z (Nat.le_trans hz.len (by decide)), fun _ => ?_⟩
  have hp := pos_of_ne h0
  refine draw_ok (by omega) (Int.le_trans (show (used.length : Int) ≤ 1000 by omega) (by decide)) fun i hi => ⟨used[i]'(by omega), atI_nat (List.getElem?_eq_getElem (by omega)), h _ (hu _ (List.getElem_mem _))⟩
/-- what a call's arms give for the error that is due -/
theorem oneU {Q : Bool → Prop} {X : HE → Prop} (h : Q true) : m__law_one_classU Q X := fun many e => by subst e; exact h
theorem oneD {Q : Bool → Prop} {X : HE → Prop} (h : Q true) : m__law_one_classD Q X := fun many e => by subst e; exact h
theorem oneW {Q : Bool → Prop} {X : HE → Prop} (h : Q true) : m__law_one_classW Q X := fun many e => by subst e; exact h
theorem oneT {Q : Bool → Prop} {X : HE → Prop} (h : Q true) : m__law_one_classT Q X := fun many e => by subst e; exact h
end
section
theorem names_ne {prs : List (Str × Int)} (h : 1 ≤ prs.length) : prs.map (·.1) ≠ [] := fun q => by
  rw [List.map_eq_nil_iff.mp q] at h
  exact absurd h (by decide)
theorem told_ok {prs : List (Str × Int)} {srs : List SRow} (ok : OkRows prs srs) {p w : Str} {nm : Option Str} {Q : PyData × List PlanD → Prop} {X : HE → Prop} (hw : w.length ≤ 1000) (hm : ∀ z, nm = some z → z.length ≤ 1000)
    (hX : p ∉ prs.map (·.1) → Q (encDue (some (.unknown p)), []))
    (h : p ∈ prs.map (·.1) → ∀ P T, OkRows prs srs → (∀ z, nm = some z → P = prs ++ [(w, 0)] ∧ T = strF srs p w z) → (nm = none → ∃ n, (p, n) ∈ prs ∧ P = prs ++ [(w, n)] ∧ T = srs.map (twT p w)) →
      Q (encDue (bdue P T), match bdue P T with | none => [planOf P T] | some _ => [])) : m__law_told (planOf prs srs) p w nm [] Q X := by
  unfold m__law_told tryD
  have hb : big = 100000 := rfl
  have arm : ∀ {P T} {y : PErr}, bdue P T = some y → (Q (encDue (bdue P T), match bdue P T with | none => [planOf P T] | some _ => [])) → (match heOf y with
      | .unknown y5 => m__law_one_classU  (fun v8 => Q ((bif v8 then (XDat.enc (r := (z2 yS yS)) (("UnknownName" : Str), y5)) else (XDat.enc (r := (z1 yS)) ("wrong" : Str))), [])) noX
      | .double y9 => m__law_one_classD  (fun v12 => Q ((bif v12 then (XDat.enc (r := (z2 yS yS)) (("DoubleName" : Str), y9)) else (XDat.enc (r := (z1 yS)) ("wrong" : Str))), [])) noX
      | .badWord y13 => m__law_one_classW  (fun v16 => Q ((bif v16 then (XDat.enc (r := (z2 yS yS)) (("BadWord" : Str), y13)) else (XDat.enc (r := (z1 yS)) ("wrong" : Str))), [])) noX
      | .tooMany y17 y18 => m__law_one_classT  (fun v21 => Q ((bif v21 then (XDat.enc (r := (z3 yS yS zI)) (("TooMany" : Str), y17, y18)) else (XDat.enc (r := (z1 yS)) ("wrong" : Str))), [])) noX
      | e => noX e) := fun {P T y} e hq => by
    have we := bdue_err e
    rw [e] at hq
    cases y with
    | badWord z => exact oneW hq
    | double z => exact oneD hq
    | tooMany k l => exact oneT hq
    | unknown z => exact we.elim
    | badNumber z => exact we.elim
    | empty z => exact we.elim
  have armU : p ∉ prs.map (·.1) → m__law_one_classU (fun v8 => Q ((bif v8 then (XDat.enc (r := (z2 yS yS)) (("UnknownName" : Str), p)) else (XDat.enc (r := (z1 yS)) ("wrong" : Str))), [])) noX := fun hp => oneU (hX hp)
  refine ⟨fun e => ?_, fun z e => ?_⟩
  · refine twin_ok ok hw armU fun n hn => ?_
    have hp : p ∈ prs.map (·.1) := List.mem_map.mpr ⟨_, hn, rfl⟩
    have hq := h hp (prs ++ [(w, n)]) (srs.map (twT p w)) ok (fun z ez => by rw [e] at ez; cases ez) fun _ => ⟨n, hn, rfl, rfl⟩
    refine ⟨fun e1 => ⟨by decide, ?_⟩, fun y ey => arm ey hq⟩
    rw [e1] at hq
    exact hq
  · refine stretch_ok ok hw (hm z e) armU fun hp => ?_
    have hq := h hp (prs ++ [(w, 0)]) (strF srs p w z) ok (fun z2 ez => by rw [e] at ez; cases ez; exact ⟨rfl, rfl⟩) fun e2 => by rw [e] at e2; cases e2
    refine ⟨fun e1 => ⟨by decide, ?_⟩, fun y ey => arm ey hq⟩
    rw [e1] at hq
    exact hq
/-- plan and rows go together -/
def Now (o : Option (PlanD × (List (Str × Int) × List SRow))) : Prop := ∃ prs srs, OkRows prs srs ∧ 1 ≤ prs.length ∧ 1 ≤ srs.length ∧ o = some (planOf prs srs, (prs, srs))
theorem rows_new {prs : List (Str × Int)} {srs : List SRow} (ok : OkRows prs srs) (p1 : 1 ≤ prs.length) (s1 : 1 ≤ srs.length) {p w : Str} {nm : Option Str} (hp : p ∈ prs.map (·.1)) {P : List (Str × Int)} {T : List SRow}
    (e1 : ∀ z, nm = some z → P = prs ++ [(w, 0)] ∧ T = strF srs p w z) (e2 : nm = none → ∃ n, (p, n) ∈ prs ∧ P = prs ++ [(w, n)] ∧ T = srs.map (twT p w)) (hb : bdue P T = none) : OkRows P T ∧ 1 ≤ P.length ∧ 1 ≤ T.length := by
  have fresh : ∀ {n : Int}, wdue [] ((prs ++ [(w, n)]).map (·.1)) = none → w ∉ prs.map (·.1) := fun {n} hn hm => by
    have h2 := (wdue_none hn).2
    rw [List.map_append, List.nodup_append] at h2
    exact h2.2.2 w hm w (List.mem_singleton.mpr rfl) rfl
  cases nm with
  | some z =>
    obtain ⟨rfl, rfl⟩ := e1 z rfl
    refine ⟨okR_b (fun r hr => (List.mem_append.mp hr).elim (fun q => (ok.pw r q).2) fun q => by rw [List.mem_singleton.mp q]; exact ⟨Int.le_refl 0, show (0 : Int) ≤ 99 by decide⟩) (strF_tk ok.r hp (fresh (bdue_none hb).2.2.1)) hb, by rw [List.length_append]; omega, ?_⟩
    unfold strF
    rw [List.length_append, List.length_map]; omega
  | none =>
    obtain ⟨n, hn, rfl, rfl⟩ := e2 rfl
    exact ⟨okR_b (fun r hr => (List.mem_append.mp hr).elim (fun q => (ok.pw r q).2) fun q => by rw [List.mem_singleton.mp q]; exact (ok.pw _ hn).2) (twF_tk ok.r (fresh (bdue_none hb).2.2.1)) hb, by rw [List.length_append]; omega, by rw [List.length_map]; exact s1⟩
theorem asked_ok {prs : List (Str × Int)} {srs : List SRow} (ok : OkRows prs srs) (p1 : 1 ≤ prs.length) (s1 : 1 ≤ srs.length) {st : Bool} {Q : Option (PlanD × (List (Str × Int) × List SRow)) → Prop} {X : HE → Prop} (h : ∀ o, Now o → Q o) : m__law_asked (planOf prs srs) (prs, srs) st Q X := by
  unfold m__law_asked
  intro words ew
  have ew : words = prs.map (·.1) := ew
  subst ew
  have l12 := ok.p12
  have l16 := ok.s16
  have wl : ∀ y ∈ prs.map (·.1), y.length ≤ 100 := fun y hy => by
    obtain ⟨r, hr, rfl⟩ := List.mem_map.mp hy
    exact Nat.le_trans (ok.pw r hr).1.len (by decide)
  have sl : ∀ y ∈ srs.map (·.1), y.length ≤ 100 := fun y hy => by
    obtain ⟨r, hr, rfl⟩ := List.mem_map.mp hy
    exact Nat.le_trans (ok.sw r hr).1.len (by decide)
  have sne : srs.map (·.1) ≠ [] := fun q => by
    rw [List.map_eq_nil_iff.mp q] at s1
    exact absurd s1 (by decide)
  refine old_ok (names_ne p1) (by rw [List.length_map]; omega) wl fun p pl => new_ok (names_ne p1) (by rw [List.length_map]; omega) wl fun w hwl => ?_
  intro name en
  have key : ∀ nm : Option Str, (∀ z, nm = some z → z.length ≤ 1000) → (st = true → nm ≠ none) → (st = false → nm = none) → m__law_told (planOf prs srs) p w nm [] (fun r14 =>
      m__law_is_plan (planOf prs srs) (prs, srs) (fun v15 =>
      ifD (!v15) (Q none) (
      ifD (!decide (p ∈ prs.map (·.1))) (
      Q (bif ((xeq r14.1 (XDat.enc (r := (z2 yS yS)) (("UnknownName" : Str), p))) && (r14.2).isEmpty) then (some (planOf prs srs, (prs, srs))) else none)) (
      joinD (fun j17 =>
      ifD st (
      ∃ zv18, nm = some zv18 ∧
      m__law_stretched (prs, srs) p w zv18 (fun v19 =>
      j17 v19) noX) (
      m__law_twinned (prs, srs) p w (fun v20 =>
      j17 v20) noX)) (fun s16 : ((List (Str × Int)) × (List (Str × (List Str) × (List Str)))) =>
      m__law_built_due s16 (fun v21 =>
      ifD (!xeq r14.1 v21) (Q none) (
      ifD (!xeq r14.1 (XDat.enc (r := (z1 yS)) ("ok" : Str))) (
      Q (bif (r14.2).isEmpty then (some (planOf prs srs, (prs, srs))) else none)) (
      ∃ v22, atI r14.2 (0 : Int) = some v22 ∧
      m__law_is_plan v22 s16 (fun v23 =>
      orD (!v23) (fun k25 => ∃ v26, atI r14.2 (0 : Int) = some v26 ∧
      m__law_plan s16 (fun v27 =>
      m_Plan___eq__ v26 v27 (fun v28 =>
      k25 (!v28)) noX) noX) (fun c24 =>
      ifD c24 (Q none) (
      ∃ v29, atI r14.2 (0 : Int) = some v29 ∧
      Q (some (v29, s16))))) noX))) noX)))) noX) noX := fun nm hnm n1 n2 => by
    have stay : Q (some (planOf prs srs, (prs, srs))) := h _ ⟨prs, srs, ok, p1, s1, rfl⟩
    refine told_ok ok (by omega) hnm (fun hp => is_plan_ok ok (ifD_f rfl (ifD_t (by rw [decide_eq_false hp]; rfl) ?_))) fun hp P T _ e1 e2 => is_plan_ok ok (ifD_f rfl (ifD_f (by rw [decide_eq_true hp]; rfl) ?_))
    · show Q (bif (xeq (encDue (some (.unknown p))) (encDue (some (.unknown p))) && _) then _ else _)
      rw [xeq_rfl]
      exact stay
    · have rest : m__law_built_due (P, T) (fun v21 =>
          ifD (!xeq (encDue (bdue P T)) v21) (Q none) (
          ifD (!xeq (encDue (bdue P T)) (XDat.enc (r := (z1 yS)) ("ok" : Str))) (
          Q (bif (match bdue P T with | none => [planOf P T] | some _ => []).isEmpty then (some (planOf prs srs, (prs, srs))) else none)) (
          ∃ v22, atI (match bdue P T with | none => [planOf P T] | some _ => []) (0 : Int) = some v22 ∧
          m__law_is_plan v22 (P, T) (fun v23 =>
          orD (!v23) (fun k25 => ∃ v26, atI (match bdue P T with | none => [planOf P T] | some _ => []) (0 : Int) = some v26 ∧
          m__law_plan (P, T) (fun v27 =>
          m_Plan___eq__ v26 v27 (fun v28 =>
          k25 (!v28)) noX) noX) (fun c24 =>
          ifD c24 (Q none) (
          ∃ v29, atI (match bdue P T with | none => [planOf P T] | some _ => []) (0 : Int) = some v29 ∧
          Q (some (v29, (P, T)))))) noX))) noX := by
        refine bdue_ok ?_
        rw [xeq_rfl, enc_isok]
        refine ifD_f rfl ?_
        cases eb : bdue P T with
        | some y => exact ifD_t rfl stay
        | none =>
          obtain ⟨ok2, q1, q2⟩ := rows_new ok p1 s1 hp e1 e2 eb
          refine ifD_f rfl ⟨_, atI_0, is_plan_ok ok2 (orD_ok (c := false) (fun _ k hk => ⟨_, atI_0, law_plan_ok ok2 (eq_self (planDue_ok ok2.due) hk)⟩) (ifD_f rfl ⟨_, atI_0, h _ ⟨P, T, ok2, q1, q2, rfl⟩⟩))⟩
      show ifD st _ _
      refine ⟨fun hs => ?_, fun hs => ?_⟩
      · cases nm with
        | none => exact absurd rfl (n1 hs)
        | some z =>
          obtain ⟨rfl, rfl⟩ := e1 z rfl
          exact ⟨z, rfl, stretched_ok (by omega) (by omega) rest⟩
      · have en := n2 hs
        obtain ⟨n, hn, rfl, rfl⟩ := e2 en
        exact twinned_ok ok.r (by omega) (by omega) hn rest
  show ifD st _ _
  refine ⟨fun hs => new_ok sne (by rw [List.length_map]; show srs.length < 59; omega) sl fun nm hnm name2 en2 => ?_, fun hs => ?_⟩
  · rw [en2]
    exact key (some nm) (fun z ez => by cases ez; omega) (fun _ q => by cases q) fun q => by rw [hs] at q; cases q
  · rw [en]
    exact key none (fun z ez => by cases ez) (fun q => by rw [hs] at q; cases q) fun _ => rfl
theorem law_pure : m_law (· = true) noX := by
  unfold m_law joinD
  have tail : ∀ prs srs, OkR prs srs → 1 ≤ prs.length → prs.length ≤ 12 → 1 ≤ srs.length → srs.length ≤ 16 → m__law_plan (prs, srs) (fun v6 =>
      ∀ now7, now7 = (some (v6, (prs, srs))) →
      forD (intsF 0 ((4 : Int)).toNat) now7 (fun x9 s8 nx bk =>
      ∃ zv11, s8 = some zv11 ∧
      ∃ zv12, s8 = some zv12 ∧
      m_draw (2 : Int) (fun v13 =>
      m__law_asked zv11.1 zv12.2 (decide (v13 = (0 : Int))) (fun v14 =>
      optD v14 (false = true) (fun now15 =>
      nx (some now15))) noX) noX) (fun s8 =>
      true = true)) noX := fun prs srs ok p1 p12 s1 s16 => by
    have okr := ok.rows p12 s16
    refine law_plan_ok okr fun now en => ?_
    refine forD_inv (fun _ o => Now o) (by rw [en]; exact ⟨prs, srs, okr, p1, s1, rfl⟩) (fun pre x post o nx e ho hnx => ?_) fun _ _ => rfl
    obtain ⟨prs2, srs2, ok2, q1, q2, rfl⟩ := ho
    refine ⟨_, rfl, _, rfl, draw_ok (by decide) (by decide) fun v hv => asked_ok ok2 q1 q2 fun o ho => ⟨fun e2 => ?_, fun y ey => hnx _ ?_⟩⟩
    · obtain ⟨_, _, _, _, _, q⟩ := ho
      rw [e2] at q
      cases q
    · rw [← ey]
      exact ho
  refine draw_ok (by decide) (by decide) fun v hv => ⟨fun _ => anyC_ok (a := 12) (b := 16) (by decide) (by decide) (by decide) (by decide) fun prs srs ok a1 a2 a3 a4 _ => tail prs srs ok a1 a2 a3 a4, fun _ => grownC_ok (most := 3) (by decide) fun prs srs ok a1 a2 a3 a4 => tail prs srs ok a1 (by omega) a3 (by omega)⟩
end
theorem all_mk {P : Program} {w : World} {K : PySem.W.Frag} {h : Heap} {mg : Str → Option Value} {fa : Addr} (X : K.In h) (G : h.Ns mainGlobals mg) (hfa : mg "law" = some (.ref fa)) (top : (P.main.scope.names.lookup ("super" : Str)).isSome = false)
    {t_LETTERS : Tok}
    {t_DIGITS : Tok}
    {t_MOST_SIGNS : Tok}
    {t_MOST_PLACES : Tok}
    {t_MOST_STEPS : Tok}
    {t_MOST_BEGIN : Tok}
    {f__law_box : Addr} {od__law_box an__law_box : Option Addr} {sl__law_box : Array (Option Value)} {oc__law_box kV__law_box dc__law_box pm__law_box cd__law_box ct__law_box : Value}
    {f__law_draw : Addr} {od__law_draw an__law_draw : Option Addr} {sl__law_draw : Array (Option Value)} {oc__law_draw kV__law_draw dc__law_draw pm__law_draw cd__law_draw ct__law_draw : Value}
    {f_is_word : Addr} {od_is_word an_is_word : Option Addr} {sl_is_word : Array (Option Value)} {oc_is_word kV_is_word dc_is_word pm_is_word cd_is_word ct_is_word : Value}
    {f_check_word : Addr} {od_check_word an_check_word : Option Addr} {sl_check_word : Array (Option Value)} {oc_check_word kV_check_word dc_check_word pm_check_word cd_check_word ct_check_word : Value}
    {f_check_number : Addr} {od_check_number an_check_number : Option Addr} {sl_check_number : Array (Option Value)} {oc_check_number kV_check_number dc_check_number pm_check_number cd_check_number ct_check_number : Value}
    {f_check_names : Addr} {od_check_names an_check_names : Option Addr} {sl_check_names : Array (Option Value)} {oc_check_names kV_check_names dc_check_names pm_check_names cd_check_names ct_check_names : Value}
    {f_in_order : Addr} {od_in_order an_in_order : Option Addr} {sl_in_order : Array (Option Value)} {oc_in_order kV_in_order dc_in_order pm_in_order cd_in_order ct_in_order : Value}
    {f__law_word : Addr} {od__law_word an__law_word : Option Addr} {sl__law_word : Array (Option Value)} {oc__law_word kV__law_word dc__law_word pm__law_word cd__law_word ct__law_word : Value}
    {f__law_fresh : Addr} {od__law_fresh an__law_fresh : Option Addr} {sl__law_fresh : Array (Option Value)} {oc__law_fresh kV__law_fresh dc__law_fresh pm__law_fresh cd__law_fresh ct__law_fresh : Value}
    {f__law_words : Addr} {od__law_words an__law_words : Option Addr} {sl__law_words : Array (Option Value)} {oc__law_words kV__law_words dc__law_words pm__law_words cd__law_words ct__law_words : Value}
    {f__law_pick : Addr} {od__law_pick an__law_pick : Option Addr} {sl__law_pick : Array (Option Value)} {oc__law_pick kV__law_pick dc__law_pick pm__law_pick cd__law_pick ct__law_pick : Value}
    {f__law_any : Addr} {od__law_any an__law_any : Option Addr} {sl__law_any : Array (Option Value)} {oc__law_any kV__law_any dc__law_any pm__law_any cd__law_any ct__law_any : Value}
    {f__law_stretched : Addr} {od__law_stretched an__law_stretched : Option Addr} {sl__law_stretched : Array (Option Value)} {oc__law_stretched kV__law_stretched dc__law_stretched pm__law_stretched cd__law_stretched ct__law_stretched : Value}
    {f__law_twinned : Addr} {od__law_twinned an__law_twinned : Option Addr} {sl__law_twinned : Array (Option Value)} {oc__law_twinned kV__law_twinned dc__law_twinned pm__law_twinned cd__law_twinned ct__law_twinned : Value}
    {f__law_echoed : Addr} {od__law_echoed an__law_echoed : Option Addr} {sl__law_echoed : Array (Option Value)} {oc__law_echoed kV__law_echoed dc__law_echoed pm__law_echoed cd__law_echoed ct__law_echoed : Value}
    {f__law_detoured : Addr} {od__law_detoured an__law_detoured : Option Addr} {sl__law_detoured : Array (Option Value)} {oc__law_detoured kV__law_detoured dc__law_detoured pm__law_detoured cd__law_detoured ct__law_detoured : Value}
    {f__law_alone : Addr} {od__law_alone an__law_alone : Option Addr} {sl__law_alone : Array (Option Value)} {oc__law_alone kV__law_alone dc__law_alone pm__law_alone cd__law_alone ct__law_alone : Value}
    {f__law_ring : Addr} {od__law_ring an__law_ring : Option Addr} {sl__law_ring : Array (Option Value)} {oc__law_ring kV__law_ring dc__law_ring pm__law_ring cd__law_ring ct__law_ring : Value}
    {f__law_grown : Addr} {od__law_grown an__law_grown : Option Addr} {sl__law_grown : Array (Option Value)} {oc__law_grown kV__law_grown dc__law_grown pm__law_grown cd__law_grown ct__law_grown : Value}
    {f_check_place : Addr} {od_check_place an_check_place : Option Addr} {sl_check_place : Array (Option Value)} {oc_check_place kV_check_place dc_check_place pm_check_place cd_check_place ct_check_place : Value}
    {f_with_place : Addr} {od_with_place an_with_place : Option Addr} {sl_with_place : Array (Option Value)} {oc_with_place kV_with_place dc_with_place pm_with_place cd_with_place ct_with_place : Value}
    {f_stretch : Addr} {od_stretch an_stretch : Option Addr} {sl_stretch : Array (Option Value)} {oc_stretch kV_stretch dc_stretch pm_stretch cd_stretch ct_stretch : Value}
    {f_twin : Addr} {od_twin an_twin : Option Addr} {sl_twin : Array (Option Value)} {oc_twin kV_twin dc_twin pm_twin cd_twin ct_twin : Value}
    {f__law_copy : Addr} {od__law_copy an__law_copy : Option Addr} {sl__law_copy : Array (Option Value)} {oc__law_copy kV__law_copy dc__law_copy pm__law_copy cd__law_copy ct__law_copy : Value}
    {f__law_plan : Addr} {od__law_plan an__law_plan : Option Addr} {sl__law_plan : Array (Option Value)} {oc__law_plan kV__law_plan dc__law_plan pm__law_plan cd__law_plan ct__law_plan : Value}
    {f__law_ordered : Addr} {od__law_ordered an__law_ordered : Option Addr} {sl__law_ordered : Array (Option Value)} {oc__law_ordered kV__law_ordered dc__law_ordered pm__law_ordered cd__law_ordered ct__law_ordered : Value}
    {f__law_is_plan : Addr} {od__law_is_plan an__law_is_plan : Option Addr} {sl__law_is_plan : Array (Option Value)} {oc__law_is_plan kV__law_is_plan dc__law_is_plan pm__law_is_plan cd__law_is_plan ct__law_is_plan : Value}
    {f__law_good : Addr} {od__law_good an__law_good : Option Addr} {sl__law_good : Array (Option Value)} {oc__law_good kV__law_good dc__law_good pm__law_good cd__law_good ct__law_good : Value}
    {f__law_words_due : Addr} {od__law_words_due an__law_words_due : Option Addr} {sl__law_words_due : Array (Option Value)} {oc__law_words_due kV__law_words_due dc__law_words_due pm__law_words_due cd__law_words_due ct__law_words_due : Value}
    {f__law_built_due : Addr} {od__law_built_due an__law_built_due : Option Addr} {sl__law_built_due : Array (Option Value)} {oc__law_built_due kV__law_built_due dc__law_built_due pm__law_built_due cd__law_built_due ct__law_built_due : Value}
    {f__law_new : Addr} {od__law_new an__law_new : Option Addr} {sl__law_new : Array (Option Value)} {oc__law_new kV__law_new dc__law_new pm__law_new cd__law_new ct__law_new : Value}
    {f__law_old : Addr} {od__law_old an__law_old : Option Addr} {sl__law_old : Array (Option Value)} {oc__law_old kV__law_old dc__law_old pm__law_old cd__law_old ct__law_old : Value}
    {f__law_one_class : Addr} {od__law_one_class an__law_one_class : Option Addr} {sl__law_one_class : Array (Option Value)} {oc__law_one_class kV__law_one_class dc__law_one_class pm__law_one_class cd__law_one_class ct__law_one_class : Value}
    {f__law_told : Addr} {od__law_told an__law_told : Option Addr} {sl__law_told : Array (Option Value)} {oc__law_told kV__law_told dc__law_told pm__law_told cd__law_told ct__law_told : Value}
    {f__law_asked : Addr} {od__law_asked an__law_asked : Option Addr} {sl__law_asked : Array (Option Value)} {oc__law_asked kV__law_asked dc__law_asked pm__law_asked cd__law_asked ct__law_asked : Value}
    {f_law : Addr} {od_law an_law : Option Addr} {sl_law : Array (Option Value)} {oc_law kV_law dc_law pm_law cd_law ct_law : Value}
    {C_HeldError : Addr}
    {C_TooMany fI_TooMany N_TooMany cda_TooMany cc_TooMany : Addr} {nm_TooMany q_TooMany file_TooMany : Str} {bs_TooMany bm_TooMany sub_TooMany : List Value} {sn_TooMany : List Str} {ab_TooMany : Bool} {col_TooMany : Option Bool} {dd_TooMany od_TooMany an_TooMany cdd_TooMany cld_TooMany : Option Addr} {m0_TooMany m1_TooMany m2_TooMany m3_TooMany m5_TooMany : Option Value} {oc_TooMany kV_TooMany dc_TooMany pm_TooMany ct_TooMany ccl_TooMany cl_TooMany : Value} {sl_TooMany ccs_TooMany csl_TooMany : Array (Option Value)} {vs_TooMany : Array Value} {tf_TooMany : Tok}
    {C_BadWord fI_BadWord N_BadWord cda_BadWord cc_BadWord : Addr} {nm_BadWord q_BadWord file_BadWord : Str} {bs_BadWord bm_BadWord sub_BadWord : List Value} {sn_BadWord : List Str} {ab_BadWord : Bool} {col_BadWord : Option Bool} {dd_BadWord od_BadWord an_BadWord cdd_BadWord cld_BadWord : Option Addr} {m0_BadWord m1_BadWord m2_BadWord m3_BadWord m5_BadWord : Option Value} {oc_BadWord kV_BadWord dc_BadWord pm_BadWord ct_BadWord ccl_BadWord cl_BadWord : Value} {sl_BadWord ccs_BadWord csl_BadWord : Array (Option Value)} {vs_BadWord : Array Value} {tf_BadWord : Tok}
    {C_DoubleName fI_DoubleName N_DoubleName cda_DoubleName cc_DoubleName : Addr} {nm_DoubleName q_DoubleName file_DoubleName : Str} {bs_DoubleName bm_DoubleName sub_DoubleName : List Value} {sn_DoubleName : List Str} {ab_DoubleName : Bool} {col_DoubleName : Option Bool} {dd_DoubleName od_DoubleName an_DoubleName cdd_DoubleName cld_DoubleName : Option Addr} {m0_DoubleName m1_DoubleName m2_DoubleName m3_DoubleName m5_DoubleName : Option Value} {oc_DoubleName kV_DoubleName dc_DoubleName pm_DoubleName ct_DoubleName ccl_DoubleName cl_DoubleName : Value} {sl_DoubleName ccs_DoubleName csl_DoubleName : Array (Option Value)} {vs_DoubleName : Array Value} {tf_DoubleName : Tok}
    {C_BadNumber fI_BadNumber N_BadNumber cda_BadNumber cc_BadNumber : Addr} {nm_BadNumber q_BadNumber file_BadNumber : Str} {bs_BadNumber bm_BadNumber sub_BadNumber : List Value} {sn_BadNumber : List Str} {ab_BadNumber : Bool} {col_BadNumber : Option Bool} {dd_BadNumber od_BadNumber an_BadNumber cdd_BadNumber cld_BadNumber : Option Addr} {m0_BadNumber m1_BadNumber m2_BadNumber m3_BadNumber m5_BadNumber : Option Value} {oc_BadNumber kV_BadNumber dc_BadNumber pm_BadNumber ct_BadNumber ccl_BadNumber cl_BadNumber : Value} {sl_BadNumber ccs_BadNumber csl_BadNumber : Array (Option Value)} {vs_BadNumber : Array Value} {tf_BadNumber : Tok}
    {C_EmptyStep fI_EmptyStep N_EmptyStep cda_EmptyStep cc_EmptyStep : Addr} {nm_EmptyStep q_EmptyStep file_EmptyStep : Str} {bs_EmptyStep bm_EmptyStep sub_EmptyStep : List Value} {sn_EmptyStep : List Str} {ab_EmptyStep : Bool} {col_EmptyStep : Option Bool} {dd_EmptyStep od_EmptyStep an_EmptyStep cdd_EmptyStep cld_EmptyStep : Option Addr} {m0_EmptyStep m1_EmptyStep m2_EmptyStep m3_EmptyStep m5_EmptyStep : Option Value} {oc_EmptyStep kV_EmptyStep dc_EmptyStep pm_EmptyStep ct_EmptyStep ccl_EmptyStep cl_EmptyStep : Value} {sl_EmptyStep ccs_EmptyStep csl_EmptyStep : Array (Option Value)} {vs_EmptyStep : Array Value} {tf_EmptyStep : Tok}
    {C_UnknownName fI_UnknownName N_UnknownName cda_UnknownName cc_UnknownName : Addr} {nm_UnknownName q_UnknownName file_UnknownName : Str} {bs_UnknownName bm_UnknownName sub_UnknownName : List Value} {sn_UnknownName : List Str} {ab_UnknownName : Bool} {col_UnknownName : Option Bool} {dd_UnknownName od_UnknownName an_UnknownName cdd_UnknownName cld_UnknownName : Option Addr} {m0_UnknownName m1_UnknownName m2_UnknownName m3_UnknownName m5_UnknownName : Option Value} {oc_UnknownName kV_UnknownName dc_UnknownName pm_UnknownName ct_UnknownName ccl_UnknownName cl_UnknownName : Value} {sl_UnknownName ccs_UnknownName csl_UnknownName : Array (Option Value)} {vs_UnknownName : Array Value} {tf_UnknownName : Tok}
    {C_BadPair fI_BadPair N_BadPair cda_BadPair cc_BadPair : Addr} {nm_BadPair q_BadPair file_BadPair : Str} {bs_BadPair bm_BadPair sub_BadPair : List Value} {sn_BadPair : List Str} {ab_BadPair : Bool} {col_BadPair : Option Bool} {dd_BadPair od_BadPair an_BadPair cdd_BadPair cld_BadPair : Option Addr} {m0_BadPair m1_BadPair m2_BadPair m3_BadPair m5_BadPair : Option Value} {oc_BadPair kV_BadPair dc_BadPair pm_BadPair ct_BadPair ccl_BadPair cl_BadPair : Value} {sl_BadPair ccs_BadPair csl_BadPair : Array (Option Value)} {vs_BadPair : Array Value} {tf_BadPair : Tok}
    {C_Plan : Addr}
    {f_Plan___init__ : Addr} {od_Plan___init__ an_Plan___init__ : Option Addr} {sl_Plan___init__ : Array (Option Value)} {oc_Plan___init__ kV_Plan___init__ dc_Plan___init__ pm_Plan___init__ cd_Plan___init__ ct_Plan___init__ : Value}
    {f_Plan_put_step : Addr} {od_Plan_put_step an_Plan_put_step : Option Addr} {sl_Plan_put_step : Array (Option Value)} {oc_Plan_put_step kV_Plan_put_step dc_Plan_put_step pm_Plan_put_step cd_Plan_put_step ct_Plan_put_step : Value}
    {f_Plan_place_rows : Addr} {od_Plan_place_rows an_Plan_place_rows : Option Addr} {sl_Plan_place_rows : Array (Option Value)} {oc_Plan_place_rows kV_Plan_place_rows dc_Plan_place_rows pm_Plan_place_rows cd_Plan_place_rows ct_Plan_place_rows : Value}
    {f_Plan_step_rows : Addr} {od_Plan_step_rows an_Plan_step_rows : Option Addr} {sl_Plan_step_rows : Array (Option Value)} {oc_Plan_step_rows kV_Plan_step_rows dc_Plan_step_rows pm_Plan_step_rows cd_Plan_step_rows ct_Plan_step_rows : Value}
    {f_Plan___eq__ : Addr} {od_Plan___eq__ an_Plan___eq__ : Option Addr} {sl_Plan___eq__ : Array (Option Value)} {oc_Plan___eq__ kV_Plan___eq__ dc_Plan___eq__ pm_Plan___eq__ cd_Plan___eq__ ct_Plan___eq__ : Value}
    {f_Plan___getitem__ : Addr} {od_Plan___getitem__ an_Plan___getitem__ : Option Addr} {sl_Plan___getitem__ : Array (Option Value)} {oc_Plan___getitem__ kV_Plan___getitem__ dc_Plan___getitem__ pm_Plan___getitem__ cd_Plan___getitem__ ct_Plan___getitem__ : Value}
    (z_len : PySem.W.nsIn K mainGlobals "len" = some none)
    (z_range : PySem.W.nsIn K mainGlobals "range" = some none)
    (z_abs : PySem.W.nsIn K mainGlobals "abs" = some none)
    (z_sum : PySem.W.nsIn K mainGlobals "sum" = some none)
    (z_sorted : PySem.W.nsIn K mainGlobals "sorted" = some none)
    (z_isinstance : PySem.W.nsIn K mainGlobals "isinstance" = some none)
    (z_zip : PySem.W.nsIn K mainGlobals "zip" = some none)
    (z_enumerate : PySem.W.nsIn K mainGlobals "enumerate" = some none)
    (z_reversed : PySem.W.nsIn K mainGlobals "reversed" = some none)
    (z_int : PySem.W.nsIn K mainGlobals "int" = some none)
    (z_str : PySem.W.nsIn K mainGlobals "str" = some none)
    (z_list : PySem.W.nsIn K mainGlobals "list" = some none)
    (z_tuple : PySem.W.nsIn K mainGlobals "tuple" = some none)
    (z_bool : PySem.W.nsIn K mainGlobals "bool" = some none)
    (z_all : PySem.W.nsIn K mainGlobals "all" = some none)
    (z_any : PySem.W.nsIn K mainGlobals "any" = some none)
    (z_ValueError : PySem.W.nsIn K mainGlobals "ValueError" = some none)
    (z_super : PySem.W.nsIn K mainGlobals "super" = some none)
    (a_LETTERS : PySem.W.nsIn K mainGlobals "LETTERS" = some (some (.str LETTERS t_LETTERS)))
    (a_DIGITS : PySem.W.nsIn K mainGlobals "DIGITS" = some (some (.str DIGITS t_DIGITS)))
    (a_MOST_SIGNS : PySem.W.nsIn K mainGlobals "MOST_SIGNS" = some (some (.int 12 t_MOST_SIGNS)))
    (a_MOST_PLACES : PySem.W.nsIn K mainGlobals "MOST_PLACES" = some (some (.int 12 t_MOST_PLACES)))
    (a_MOST_STEPS : PySem.W.nsIn K mainGlobals "MOST_STEPS" = some (some (.int 16 t_MOST_STEPS)))
    (a_MOST_BEGIN : PySem.W.nsIn K mainGlobals "MOST_BEGIN" = some (some (.int 99 t_MOST_BEGIN)))
    (a__law_box : PySem.W.nsIn K mainGlobals "_law_box" = some (some (.ref f__law_box)))
    (l__law_box : K.lookup f__law_box = some ⟨oc__law_box, od__law_box, .func (PySem.W.fnOf "_law_box" "_law_box" (defArgs s__law_box) (defBody s__law_box) (defScope s__law_box) .none kV__law_box dc__law_box pm__law_box an__law_box cd__law_box ct__law_box), sl__law_box⟩)
    (c__law_box : PySem.W.codeIn K cd__law_box "_law_box" = true)
    (k__law_box : PySem.W.keepIn K (.ref f__law_box) = true)
    (a__law_draw : PySem.W.nsIn K mainGlobals "_law_draw" = some (some (.ref f__law_draw)))
    (l__law_draw : K.lookup f__law_draw = some ⟨oc__law_draw, od__law_draw, .func (PySem.W.fnOf "_law_draw" "_law_draw" (defArgs s__law_draw) (defBody s__law_draw) (defScope s__law_draw) .none kV__law_draw dc__law_draw pm__law_draw an__law_draw cd__law_draw ct__law_draw), sl__law_draw⟩)
    (c__law_draw : PySem.W.codeIn K cd__law_draw "_law_draw" = true)
    (k__law_draw : PySem.W.keepIn K (.ref f__law_draw) = true)
    (a_is_word : PySem.W.nsIn K mainGlobals "is_word" = some (some (.ref f_is_word)))
    (l_is_word : K.lookup f_is_word = some ⟨oc_is_word, od_is_word, .func (PySem.W.fnOf "is_word" "is_word" (defArgs s_is_word) (defBody s_is_word) (defScope s_is_word) .none kV_is_word dc_is_word pm_is_word an_is_word cd_is_word ct_is_word), sl_is_word⟩)
    (c_is_word : PySem.W.codeIn K cd_is_word "is_word" = true)
    (k_is_word : PySem.W.keepIn K (.ref f_is_word) = true)
    (a_check_word : PySem.W.nsIn K mainGlobals "check_word" = some (some (.ref f_check_word)))
    (l_check_word : K.lookup f_check_word = some ⟨oc_check_word, od_check_word, .func (PySem.W.fnOf "check_word" "check_word" (defArgs s_check_word) (defBody s_check_word) (defScope s_check_word) .none kV_check_word dc_check_word pm_check_word an_check_word cd_check_word ct_check_word), sl_check_word⟩)
    (c_check_word : PySem.W.codeIn K cd_check_word "check_word" = true)
    (k_check_word : PySem.W.keepIn K (.ref f_check_word) = true)
    (a_check_number : PySem.W.nsIn K mainGlobals "check_number" = some (some (.ref f_check_number)))
    (l_check_number : K.lookup f_check_number = some ⟨oc_check_number, od_check_number, .func (PySem.W.fnOf "check_number" "check_number" (defArgs s_check_number) (defBody s_check_number) (defScope s_check_number) .none kV_check_number dc_check_number pm_check_number an_check_number cd_check_number ct_check_number), sl_check_number⟩)
    (c_check_number : PySem.W.codeIn K cd_check_number "check_number" = true)
    (k_check_number : PySem.W.keepIn K (.ref f_check_number) = true)
    (a_check_names : PySem.W.nsIn K mainGlobals "check_names" = some (some (.ref f_check_names)))
    (l_check_names : K.lookup f_check_names = some ⟨oc_check_names, od_check_names, .func (PySem.W.fnOf "check_names" "check_names" (defArgs s_check_names) (defBody s_check_names) (defScope s_check_names) .none kV_check_names dc_check_names pm_check_names an_check_names cd_check_names ct_check_names), sl_check_names⟩)
    (c_check_names : PySem.W.codeIn K cd_check_names "check_names" = true)
    (k_check_names : PySem.W.keepIn K (.ref f_check_names) = true)
    (a_in_order : PySem.W.nsIn K mainGlobals "in_order" = some (some (.ref f_in_order)))
    (l_in_order : K.lookup f_in_order = some ⟨oc_in_order, od_in_order, .func (PySem.W.fnOf "in_order" "in_order" (defArgs s_in_order) (defBody s_in_order) (defScope s_in_order) .none kV_in_order dc_in_order pm_in_order an_in_order cd_in_order ct_in_order), sl_in_order⟩)
    (c_in_order : PySem.W.codeIn K cd_in_order "in_order" = true)
    (k_in_order : PySem.W.keepIn K (.ref f_in_order) = true)
    (a__law_word : PySem.W.nsIn K mainGlobals "_law_word" = some (some (.ref f__law_word)))
    (l__law_word : K.lookup f__law_word = some ⟨oc__law_word, od__law_word, .func (PySem.W.fnOf "_law_word" "_law_word" (defArgs s__law_word) (defBody s__law_word) (defScope s__law_word) .none kV__law_word dc__law_word pm__law_word an__law_word cd__law_word ct__law_word), sl__law_word⟩)
    (c__law_word : PySem.W.codeIn K cd__law_word "_law_word" = true)
    (k__law_word : PySem.W.keepIn K (.ref f__law_word) = true)
    (a__law_fresh : PySem.W.nsIn K mainGlobals "_law_fresh" = some (some (.ref f__law_fresh)))
    (l__law_fresh : K.lookup f__law_fresh = some ⟨oc__law_fresh, od__law_fresh, .func (PySem.W.fnOf "_law_fresh" "_law_fresh" (defArgs s__law_fresh) (defBody s__law_fresh) (defScope s__law_fresh) .none kV__law_fresh dc__law_fresh pm__law_fresh an__law_fresh cd__law_fresh ct__law_fresh), sl__law_fresh⟩)
    (c__law_fresh : PySem.W.codeIn K cd__law_fresh "_law_fresh" = true)
    (k__law_fresh : PySem.W.keepIn K (.ref f__law_fresh) = true)
    (a__law_words : PySem.W.nsIn K mainGlobals "_law_words" = some (some (.ref f__law_words)))
    (l__law_words : K.lookup f__law_words = some ⟨oc__law_words, od__law_words, .func (PySem.W.fnOf "_law_words" "_law_words" (defArgs s__law_words) (defBody s__law_words) (defScope s__law_words) .none kV__law_words dc__law_words pm__law_words an__law_words cd__law_words ct__law_words), sl__law_words⟩)
    (c__law_words : PySem.W.codeIn K cd__law_words "_law_words" = true)
    (k__law_words : PySem.W.keepIn K (.ref f__law_words) = true)
    (a__law_pick : PySem.W.nsIn K mainGlobals "_law_pick" = some (some (.ref f__law_pick)))
    (l__law_pick : K.lookup f__law_pick = some ⟨oc__law_pick, od__law_pick, .func (PySem.W.fnOf "_law_pick" "_law_pick" (defArgs s__law_pick) (defBody s__law_pick) (defScope s__law_pick) .none kV__law_pick dc__law_pick pm__law_pick an__law_pick cd__law_pick ct__law_pick), sl__law_pick⟩)
    (c__law_pick : PySem.W.codeIn K cd__law_pick "_law_pick" = true)
    (k__law_pick : PySem.W.keepIn K (.ref f__law_pick) = true)
    (a__law_any : PySem.W.nsIn K mainGlobals "_law_any" = some (some (.ref f__law_any)))
    (l__law_any : K.lookup f__law_any = some ⟨oc__law_any, od__law_any, .func (PySem.W.fnOf "_law_any" "_law_any" (defArgs s__law_any) (defBody s__law_any) (defScope s__law_any) .none kV__law_any dc__law_any pm__law_any an__law_any cd__law_any ct__law_any), sl__law_any⟩)
    (c__law_any : PySem.W.codeIn K cd__law_any "_law_any" = true)
    (k__law_any : PySem.W.keepIn K (.ref f__law_any) = true)
    (a__law_stretched : PySem.W.nsIn K mainGlobals "_law_stretched" = some (some (.ref f__law_stretched)))
    (l__law_stretched : K.lookup f__law_stretched = some ⟨oc__law_stretched, od__law_stretched, .func (PySem.W.fnOf "_law_stretched" "_law_stretched" (defArgs s__law_stretched) (defBody s__law_stretched) (defScope s__law_stretched) .none kV__law_stretched dc__law_stretched pm__law_stretched an__law_stretched cd__law_stretched ct__law_stretched), sl__law_stretched⟩)
    (c__law_stretched : PySem.W.codeIn K cd__law_stretched "_law_stretched" = true)
    (k__law_stretched : PySem.W.keepIn K (.ref f__law_stretched) = true)
    (a__law_twinned : PySem.W.nsIn K mainGlobals "_law_twinned" = some (some (.ref f__law_twinned)))
    (l__law_twinned : K.lookup f__law_twinned = some ⟨oc__law_twinned, od__law_twinned, .func (PySem.W.fnOf "_law_twinned" "_law_twinned" (defArgs s__law_twinned) (defBody s__law_twinned) (defScope s__law_twinned) .none kV__law_twinned dc__law_twinned pm__law_twinned an__law_twinned cd__law_twinned ct__law_twinned), sl__law_twinned⟩)
    (c__law_twinned : PySem.W.codeIn K cd__law_twinned "_law_twinned" = true)
    (k__law_twinned : PySem.W.keepIn K (.ref f__law_twinned) = true)
    (a__law_echoed : PySem.W.nsIn K mainGlobals "_law_echoed" = some (some (.ref f__law_echoed)))
    (l__law_echoed : K.lookup f__law_echoed = some ⟨oc__law_echoed, od__law_echoed, .func (PySem.W.fnOf "_law_echoed" "_law_echoed" (defArgs s__law_echoed) (defBody s__law_echoed) (defScope s__law_echoed) .none kV__law_echoed dc__law_echoed pm__law_echoed an__law_echoed cd__law_echoed ct__law_echoed), sl__law_echoed⟩)
    (c__law_echoed : PySem.W.codeIn K cd__law_echoed "_law_echoed" = true)
    (k__law_echoed : PySem.W.keepIn K (.ref f__law_echoed) = true)
    (a__law_detoured : PySem.W.nsIn K mainGlobals "_law_detoured" = some (some (.ref f__law_detoured)))
    (l__law_detoured : K.lookup f__law_detoured = some ⟨oc__law_detoured, od__law_detoured, .func (PySem.W.fnOf "_law_detoured" "_law_detoured" (defArgs s__law_detoured) (defBody s__law_detoured) (defScope s__law_detoured) .none kV__law_detoured dc__law_detoured pm__law_detoured an__law_detoured cd__law_detoured ct__law_detoured), sl__law_detoured⟩)
    (c__law_detoured : PySem.W.codeIn K cd__law_detoured "_law_detoured" = true)
    (k__law_detoured : PySem.W.keepIn K (.ref f__law_detoured) = true)
    (a__law_alone : PySem.W.nsIn K mainGlobals "_law_alone" = some (some (.ref f__law_alone)))
    (l__law_alone : K.lookup f__law_alone = some ⟨oc__law_alone, od__law_alone, .func (PySem.W.fnOf "_law_alone" "_law_alone" (defArgs s__law_alone) (defBody s__law_alone) (defScope s__law_alone) .none kV__law_alone dc__law_alone pm__law_alone an__law_alone cd__law_alone ct__law_alone), sl__law_alone⟩)
    (c__law_alone : PySem.W.codeIn K cd__law_alone "_law_alone" = true)
    (k__law_alone : PySem.W.keepIn K (.ref f__law_alone) = true)
    (a__law_ring : PySem.W.nsIn K mainGlobals "_law_ring" = some (some (.ref f__law_ring)))
    (l__law_ring : K.lookup f__law_ring = some ⟨oc__law_ring, od__law_ring, .func (PySem.W.fnOf "_law_ring" "_law_ring" (defArgs s__law_ring) (defBody s__law_ring) (defScope s__law_ring) .none kV__law_ring dc__law_ring pm__law_ring an__law_ring cd__law_ring ct__law_ring), sl__law_ring⟩)
    (c__law_ring : PySem.W.codeIn K cd__law_ring "_law_ring" = true)
    (k__law_ring : PySem.W.keepIn K (.ref f__law_ring) = true)
    (a__law_grown : PySem.W.nsIn K mainGlobals "_law_grown" = some (some (.ref f__law_grown)))
    (l__law_grown : K.lookup f__law_grown = some ⟨oc__law_grown, od__law_grown, .func (PySem.W.fnOf "_law_grown" "_law_grown" (defArgs s__law_grown) (defBody s__law_grown) (defScope s__law_grown) .none kV__law_grown dc__law_grown pm__law_grown an__law_grown cd__law_grown ct__law_grown), sl__law_grown⟩)
    (c__law_grown : PySem.W.codeIn K cd__law_grown "_law_grown" = true)
    (k__law_grown : PySem.W.keepIn K (.ref f__law_grown) = true)
    (a_check_place : PySem.W.nsIn K mainGlobals "check_place" = some (some (.ref f_check_place)))
    (l_check_place : K.lookup f_check_place = some ⟨oc_check_place, od_check_place, .func (PySem.W.fnOf "check_place" "check_place" (defArgs s_check_place) (defBody s_check_place) (defScope s_check_place) .none kV_check_place dc_check_place pm_check_place an_check_place cd_check_place ct_check_place), sl_check_place⟩)
    (c_check_place : PySem.W.codeIn K cd_check_place "check_place" = true)
    (k_check_place : PySem.W.keepIn K (.ref f_check_place) = true)
    (a_with_place : PySem.W.nsIn K mainGlobals "with_place" = some (some (.ref f_with_place)))
    (l_with_place : K.lookup f_with_place = some ⟨oc_with_place, od_with_place, .func (PySem.W.fnOf "with_place" "with_place" (defArgs s_with_place) (defBody s_with_place) (defScope s_with_place) .none kV_with_place dc_with_place pm_with_place an_with_place cd_with_place ct_with_place), sl_with_place⟩)
    (c_with_place : PySem.W.codeIn K cd_with_place "with_place" = true)
    (k_with_place : PySem.W.keepIn K (.ref f_with_place) = true)
    (a_stretch : PySem.W.nsIn K mainGlobals "stretch" = some (some (.ref f_stretch)))
    (l_stretch : K.lookup f_stretch = some ⟨oc_stretch, od_stretch, .func (PySem.W.fnOf "stretch" "stretch" (defArgs s_stretch) (defBody s_stretch) (defScope s_stretch) .none kV_stretch dc_stretch pm_stretch an_stretch cd_stretch ct_stretch), sl_stretch⟩)
    (c_stretch : PySem.W.codeIn K cd_stretch "stretch" = true)
    (k_stretch : PySem.W.keepIn K (.ref f_stretch) = true)
    (a_twin : PySem.W.nsIn K mainGlobals "twin" = some (some (.ref f_twin)))
    (l_twin : K.lookup f_twin = some ⟨oc_twin, od_twin, .func (PySem.W.fnOf "twin" "twin" (defArgs s_twin) (defBody s_twin) (defScope s_twin) .none kV_twin dc_twin pm_twin an_twin cd_twin ct_twin), sl_twin⟩)
    (c_twin : PySem.W.codeIn K cd_twin "twin" = true)
    (k_twin : PySem.W.keepIn K (.ref f_twin) = true)
    (a__law_copy : PySem.W.nsIn K mainGlobals "_law_copy" = some (some (.ref f__law_copy)))
    (l__law_copy : K.lookup f__law_copy = some ⟨oc__law_copy, od__law_copy, .func (PySem.W.fnOf "_law_copy" "_law_copy" (defArgs s__law_copy) (defBody s__law_copy) (defScope s__law_copy) .none kV__law_copy dc__law_copy pm__law_copy an__law_copy cd__law_copy ct__law_copy), sl__law_copy⟩)
    (c__law_copy : PySem.W.codeIn K cd__law_copy "_law_copy" = true)
    (k__law_copy : PySem.W.keepIn K (.ref f__law_copy) = true)
    (a__law_plan : PySem.W.nsIn K mainGlobals "_law_plan" = some (some (.ref f__law_plan)))
    (l__law_plan : K.lookup f__law_plan = some ⟨oc__law_plan, od__law_plan, .func (PySem.W.fnOf "_law_plan" "_law_plan" (defArgs s__law_plan) (defBody s__law_plan) (defScope s__law_plan) .none kV__law_plan dc__law_plan pm__law_plan an__law_plan cd__law_plan ct__law_plan), sl__law_plan⟩)
    (c__law_plan : PySem.W.codeIn K cd__law_plan "_law_plan" = true)
    (k__law_plan : PySem.W.keepIn K (.ref f__law_plan) = true)
    (a__law_ordered : PySem.W.nsIn K mainGlobals "_law_ordered" = some (some (.ref f__law_ordered)))
    (l__law_ordered : K.lookup f__law_ordered = some ⟨oc__law_ordered, od__law_ordered, .func (PySem.W.fnOf "_law_ordered" "_law_ordered" (defArgs s__law_ordered) (defBody s__law_ordered) (defScope s__law_ordered) .none kV__law_ordered dc__law_ordered pm__law_ordered an__law_ordered cd__law_ordered ct__law_ordered), sl__law_ordered⟩)
    (c__law_ordered : PySem.W.codeIn K cd__law_ordered "_law_ordered" = true)
    (k__law_ordered : PySem.W.keepIn K (.ref f__law_ordered) = true)
    (a__law_is_plan : PySem.W.nsIn K mainGlobals "_law_is_plan" = some (some (.ref f__law_is_plan)))
    (l__law_is_plan : K.lookup f__law_is_plan = some ⟨oc__law_is_plan, od__law_is_plan, .func (PySem.W.fnOf "_law_is_plan" "_law_is_plan" (defArgs s__law_is_plan) (defBody s__law_is_plan) (defScope s__law_is_plan) .none kV__law_is_plan dc__law_is_plan pm__law_is_plan an__law_is_plan cd__law_is_plan ct__law_is_plan), sl__law_is_plan⟩)
    (c__law_is_plan : PySem.W.codeIn K cd__law_is_plan "_law_is_plan" = true)
    (k__law_is_plan : PySem.W.keepIn K (.ref f__law_is_plan) = true)
    (a__law_good : PySem.W.nsIn K mainGlobals "_law_good" = some (some (.ref f__law_good)))
    (l__law_good : K.lookup f__law_good = some ⟨oc__law_good, od__law_good, .func (PySem.W.fnOf "_law_good" "_law_good" (defArgs s__law_good) (defBody s__law_good) (defScope s__law_good) .none kV__law_good dc__law_good pm__law_good an__law_good cd__law_good ct__law_good), sl__law_good⟩)
    (c__law_good : PySem.W.codeIn K cd__law_good "_law_good" = true)
    (k__law_good : PySem.W.keepIn K (.ref f__law_good) = true)
    (a__law_words_due : PySem.W.nsIn K mainGlobals "_law_words_due" = some (some (.ref f__law_words_due)))
    (l__law_words_due : K.lookup f__law_words_due = some ⟨oc__law_words_due, od__law_words_due, .func (PySem.W.fnOf "_law_words_due" "_law_words_due" (defArgs s__law_words_due) (defBody s__law_words_due) (defScope s__law_words_due) .none kV__law_words_due dc__law_words_due pm__law_words_due an__law_words_due cd__law_words_due ct__law_words_due), sl__law_words_due⟩)
    (c__law_words_due : PySem.W.codeIn K cd__law_words_due "_law_words_due" = true)
    (k__law_words_due : PySem.W.keepIn K (.ref f__law_words_due) = true)
    (a__law_built_due : PySem.W.nsIn K mainGlobals "_law_built_due" = some (some (.ref f__law_built_due)))
    (l__law_built_due : K.lookup f__law_built_due = some ⟨oc__law_built_due, od__law_built_due, .func (PySem.W.fnOf "_law_built_due" "_law_built_due" (defArgs s__law_built_due) (defBody s__law_built_due) (defScope s__law_built_due) .none kV__law_built_due dc__law_built_due pm__law_built_due an__law_built_due cd__law_built_due ct__law_built_due), sl__law_built_due⟩)
    (c__law_built_due : PySem.W.codeIn K cd__law_built_due "_law_built_due" = true)
    (k__law_built_due : PySem.W.keepIn K (.ref f__law_built_due) = true)
    (a__law_new : PySem.W.nsIn K mainGlobals "_law_new" = some (some (.ref f__law_new)))
    (l__law_new : K.lookup f__law_new = some ⟨oc__law_new, od__law_new, .func (PySem.W.fnOf "_law_new" "_law_new" (defArgs s__law_new) (defBody s__law_new) (defScope s__law_new) .none kV__law_new dc__law_new pm__law_new an__law_new cd__law_new ct__law_new), sl__law_new⟩)
    (c__law_new : PySem.W.codeIn K cd__law_new "_law_new" = true)
    (k__law_new : PySem.W.keepIn K (.ref f__law_new) = true)
    (a__law_old : PySem.W.nsIn K mainGlobals "_law_old" = some (some (.ref f__law_old)))
    (l__law_old : K.lookup f__law_old = some ⟨oc__law_old, od__law_old, .func (PySem.W.fnOf "_law_old" "_law_old" (defArgs s__law_old) (defBody s__law_old) (defScope s__law_old) .none kV__law_old dc__law_old pm__law_old an__law_old cd__law_old ct__law_old), sl__law_old⟩)
    (c__law_old : PySem.W.codeIn K cd__law_old "_law_old" = true)
    (k__law_old : PySem.W.keepIn K (.ref f__law_old) = true)
    (a__law_one_class : PySem.W.nsIn K mainGlobals "_law_one_class" = some (some (.ref f__law_one_class)))
    (l__law_one_class : K.lookup f__law_one_class = some ⟨oc__law_one_class, od__law_one_class, .func (PySem.W.fnOf "_law_one_class" "_law_one_class" (defArgs s__law_one_class) (defBody s__law_one_class) (defScope s__law_one_class) .none kV__law_one_class dc__law_one_class pm__law_one_class an__law_one_class cd__law_one_class ct__law_one_class), sl__law_one_class⟩)
    (c__law_one_class : PySem.W.codeIn K cd__law_one_class "_law_one_class" = true)
    (k__law_one_class : PySem.W.keepIn K (.ref f__law_one_class) = true)
    (a__law_told : PySem.W.nsIn K mainGlobals "_law_told" = some (some (.ref f__law_told)))
    (l__law_told : K.lookup f__law_told = some ⟨oc__law_told, od__law_told, .func (PySem.W.fnOf "_law_told" "_law_told" (defArgs s__law_told) (defBody s__law_told) (defScope s__law_told) .none kV__law_told dc__law_told pm__law_told an__law_told cd__law_told ct__law_told), sl__law_told⟩)
    (c__law_told : PySem.W.codeIn K cd__law_told "_law_told" = true)
    (k__law_told : PySem.W.keepIn K (.ref f__law_told) = true)
    (a__law_asked : PySem.W.nsIn K mainGlobals "_law_asked" = some (some (.ref f__law_asked)))
    (l__law_asked : K.lookup f__law_asked = some ⟨oc__law_asked, od__law_asked, .func (PySem.W.fnOf "_law_asked" "_law_asked" (defArgs s__law_asked) (defBody s__law_asked) (defScope s__law_asked) .none kV__law_asked dc__law_asked pm__law_asked an__law_asked cd__law_asked ct__law_asked), sl__law_asked⟩)
    (c__law_asked : PySem.W.codeIn K cd__law_asked "_law_asked" = true)
    (k__law_asked : PySem.W.keepIn K (.ref f__law_asked) = true)
    (a_law : PySem.W.nsIn K mainGlobals "law" = some (some (.ref f_law)))
    (l_law : K.lookup f_law = some ⟨oc_law, od_law, .func (PySem.W.fnOf "law" "law" (defArgs s_law) (defBody s_law) (defScope s_law) .none kV_law dc_law pm_law an_law cd_law ct_law), sl_law⟩)
    (c_law : PySem.W.codeIn K cd_law "law" = true)
    (k_law : PySem.W.keepIn K (.ref f_law) = true)
    (aC_HeldError : PySem.W.nsIn K mainGlobals "HeldError" = some (some (.ref C_HeldError)))
    (e_opq : PySem.W.nsIn K cStatics "thirdparty.any" = some none)
    (e_cg : PySem.W.specialIn K (.builtin "object.__class__") "__get__" = some (some (.builtin "getset_descriptor.__get__")))
    (e_ct : PySem.W.takesIn K (.builtin "object.__class__") = some true)
    (aC_TooMany : PySem.W.nsIn K mainGlobals "TooMany" = some (some (.ref C_TooMany)))
    (xL_TooMany : K.lookup C_TooMany = some (excClassObj nm_TooMany q_TooMany C_TooMany N_TooMany bs_TooMany bm_TooMany true sn_TooMany sub_TooMany ab_TooMany col_TooMany dd_TooMany m0_TooMany m1_TooMany m2_TooMany m3_TooMany m5_TooMany "ValueError.__new__"))
    (bm_TooMany : PySem.HandSPX.refsVE bm_TooMany = true)
    (sa_TooMany : PySem.W.findIn K (.ref C_TooMany) "__setattr__" = some (some (.builtin "object.__setattr__")))
    (ga_TooMany : PySem.W.findIn K (.ref C_TooMany) "__getattribute__" = some (some (.builtin "BaseException.__getattribute__")))
    (gg_TooMany : PySem.W.findIn K (.ref C_TooMany) "__getattr__" = some none)
    (no_kind_TooMany : PySem.W.findIn K (.ref C_TooMany) "kind" = some none)
    (no_limit_TooMany : PySem.W.findIn K (.ref C_TooMany) "limit" = some none)
    (iC_TooMany : PySem.W.findIn K (.ref C_TooMany) "__init__" = some (some (.ref fI_TooMany)))
    (tI_TooMany : PySem.W.typeIn K (.ref fI_TooMany) = some (.type "function"))
    (kC_TooMany : PySem.W.keepIn K (.ref C_TooMany) = true)
    (ex_TooMany : PySem.W.subIn K (.ref C_TooMany) (.type "BaseException") = some true)
    (ve_TooMany : PySem.W.subIn K (.ref C_TooMany) (.type "ValueError") = some true)
    (ty_TooMany : PySem.W.typeIn K (.ref C_TooMany) = some (.type "type"))
    (hd_TooMany : PySem.W.hasDictIn K C_TooMany = true)
    (sup_TooMany : PySem.W.ks_superIn K C_TooMany C_TooMany "__init__" = some (some (.builtin "ValueError.__init__")))
    (mro_TooMany : PySem.W.mroIn K C_TooMany (.ref C_TooMany) = some true)
    (su_TooMany : PySem.W.subIn K (.ref C_TooMany) (.ref C_TooMany) = some true)
    (ca_TooMany : PySem.W.findIn K (.ref C_TooMany) "__class__" = some (some (.builtin "object.__class__")))
    (mo_TooMany : PySem.W.mroIn K C_TooMany (.type "object") = some true)
    (l_TooMany : K.lookup fI_TooMany = some ⟨oc_TooMany, od_TooMany, .func (PySem.W.ksFn "__init__" "TooMany.__init__" (defArgs (inClass (topS 8) 0)) (defBody (inClass (topS 8) 0)) (defScope (inClass (topS 8) 0)) .none kV_TooMany dc_TooMany pm_TooMany an_TooMany (.ref cda_TooMany) ct_TooMany cc_TooMany), sl_TooMany⟩)
    (c_TooMany : PySem.W.codeIn K (.ref cda_TooMany) "TooMany.__init__" = true)
    (lc_TooMany : K.lookup cda_TooMany = some ⟨ccl_TooMany, cdd_TooMany, .fields vs_TooMany, ccs_TooMany⟩)
    (v2_TooMany : vs_TooMany[2]? = some (.str file_TooMany tf_TooMany))
    (fl_TooMany : ((P.main.file : Str) == file_TooMany) = true)
    (cc_TooMany : K.lookup cc_TooMany = some ⟨cl_TooMany, cld_TooMany, .cell (some (.ref C_TooMany)), csl_TooMany⟩)
    (aC_BadWord : PySem.W.nsIn K mainGlobals "BadWord" = some (some (.ref C_BadWord)))
    (xL_BadWord : K.lookup C_BadWord = some (excClassObj nm_BadWord q_BadWord C_BadWord N_BadWord bs_BadWord bm_BadWord true sn_BadWord sub_BadWord ab_BadWord col_BadWord dd_BadWord m0_BadWord m1_BadWord m2_BadWord m3_BadWord m5_BadWord "ValueError.__new__"))
    (bm_BadWord : PySem.HandSPX.refsVE bm_BadWord = true)
    (sa_BadWord : PySem.W.findIn K (.ref C_BadWord) "__setattr__" = some (some (.builtin "object.__setattr__")))
    (ga_BadWord : PySem.W.findIn K (.ref C_BadWord) "__getattribute__" = some (some (.builtin "BaseException.__getattribute__")))
    (gg_BadWord : PySem.W.findIn K (.ref C_BadWord) "__getattr__" = some none)
    (no_word_BadWord : PySem.W.findIn K (.ref C_BadWord) "word" = some none)
    (iC_BadWord : PySem.W.findIn K (.ref C_BadWord) "__init__" = some (some (.ref fI_BadWord)))
    (tI_BadWord : PySem.W.typeIn K (.ref fI_BadWord) = some (.type "function"))
    (kC_BadWord : PySem.W.keepIn K (.ref C_BadWord) = true)
    (ex_BadWord : PySem.W.subIn K (.ref C_BadWord) (.type "BaseException") = some true)
    (ve_BadWord : PySem.W.subIn K (.ref C_BadWord) (.type "ValueError") = some true)
    (ty_BadWord : PySem.W.typeIn K (.ref C_BadWord) = some (.type "type"))
    (hd_BadWord : PySem.W.hasDictIn K C_BadWord = true)
    (sup_BadWord : PySem.W.ks_superIn K C_BadWord C_BadWord "__init__" = some (some (.builtin "ValueError.__init__")))
    (mro_BadWord : PySem.W.mroIn K C_BadWord (.ref C_BadWord) = some true)
    (su_BadWord : PySem.W.subIn K (.ref C_BadWord) (.ref C_BadWord) = some true)
    (ca_BadWord : PySem.W.findIn K (.ref C_BadWord) "__class__" = some (some (.builtin "object.__class__")))
    (mo_BadWord : PySem.W.mroIn K C_BadWord (.type "object") = some true)
    (l_BadWord : K.lookup fI_BadWord = some ⟨oc_BadWord, od_BadWord, .func (PySem.W.ksFn "__init__" "BadWord.__init__" (defArgs (inClass (topS 3) 0)) (defBody (inClass (topS 3) 0)) (defScope (inClass (topS 3) 0)) .none kV_BadWord dc_BadWord pm_BadWord an_BadWord (.ref cda_BadWord) ct_BadWord cc_BadWord), sl_BadWord⟩)
    (c_BadWord : PySem.W.codeIn K (.ref cda_BadWord) "BadWord.__init__" = true)
    (lc_BadWord : K.lookup cda_BadWord = some ⟨ccl_BadWord, cdd_BadWord, .fields vs_BadWord, ccs_BadWord⟩)
    (v2_BadWord : vs_BadWord[2]? = some (.str file_BadWord tf_BadWord))
    (fl_BadWord : ((P.main.file : Str) == file_BadWord) = true)
    (cc_BadWord : K.lookup cc_BadWord = some ⟨cl_BadWord, cld_BadWord, .cell (some (.ref C_BadWord)), csl_BadWord⟩)
    (aC_DoubleName : PySem.W.nsIn K mainGlobals "DoubleName" = some (some (.ref C_DoubleName)))
    (xL_DoubleName : K.lookup C_DoubleName = some (excClassObj nm_DoubleName q_DoubleName C_DoubleName N_DoubleName bs_DoubleName bm_DoubleName true sn_DoubleName sub_DoubleName ab_DoubleName col_DoubleName dd_DoubleName m0_DoubleName m1_DoubleName m2_DoubleName m3_DoubleName m5_DoubleName "ValueError.__new__"))
    (bm_DoubleName : PySem.HandSPX.refsVE bm_DoubleName = true)
    (sa_DoubleName : PySem.W.findIn K (.ref C_DoubleName) "__setattr__" = some (some (.builtin "object.__setattr__")))
    (ga_DoubleName : PySem.W.findIn K (.ref C_DoubleName) "__getattribute__" = some (some (.builtin "BaseException.__getattribute__")))
    (gg_DoubleName : PySem.W.findIn K (.ref C_DoubleName) "__getattr__" = some none)
    (no_name_DoubleName : PySem.W.findIn K (.ref C_DoubleName) "name" = some none)
    (iC_DoubleName : PySem.W.findIn K (.ref C_DoubleName) "__init__" = some (some (.ref fI_DoubleName)))
    (tI_DoubleName : PySem.W.typeIn K (.ref fI_DoubleName) = some (.type "function"))
    (kC_DoubleName : PySem.W.keepIn K (.ref C_DoubleName) = true)
    (ex_DoubleName : PySem.W.subIn K (.ref C_DoubleName) (.type "BaseException") = some true)
    (ve_DoubleName : PySem.W.subIn K (.ref C_DoubleName) (.type "ValueError") = some true)
    (ty_DoubleName : PySem.W.typeIn K (.ref C_DoubleName) = some (.type "type"))
    (hd_DoubleName : PySem.W.hasDictIn K C_DoubleName = true)
    (sup_DoubleName : PySem.W.ks_superIn K C_DoubleName C_DoubleName "__init__" = some (some (.builtin "ValueError.__init__")))
    (mro_DoubleName : PySem.W.mroIn K C_DoubleName (.ref C_DoubleName) = some true)
    (su_DoubleName : PySem.W.subIn K (.ref C_DoubleName) (.ref C_DoubleName) = some true)
    (ca_DoubleName : PySem.W.findIn K (.ref C_DoubleName) "__class__" = some (some (.builtin "object.__class__")))
    (mo_DoubleName : PySem.W.mroIn K C_DoubleName (.type "object") = some true)
    (l_DoubleName : K.lookup fI_DoubleName = some ⟨oc_DoubleName, od_DoubleName, .func (PySem.W.ksFn "__init__" "DoubleName.__init__" (defArgs (inClass (topS 6) 0)) (defBody (inClass (topS 6) 0)) (defScope (inClass (topS 6) 0)) .none kV_DoubleName dc_DoubleName pm_DoubleName an_DoubleName (.ref cda_DoubleName) ct_DoubleName cc_DoubleName), sl_DoubleName⟩)
    (c_DoubleName : PySem.W.codeIn K (.ref cda_DoubleName) "DoubleName.__init__" = true)
    (lc_DoubleName : K.lookup cda_DoubleName = some ⟨ccl_DoubleName, cdd_DoubleName, .fields vs_DoubleName, ccs_DoubleName⟩)
    (v2_DoubleName : vs_DoubleName[2]? = some (.str file_DoubleName tf_DoubleName))
    (fl_DoubleName : ((P.main.file : Str) == file_DoubleName) = true)
    (cc_DoubleName : K.lookup cc_DoubleName = some ⟨cl_DoubleName, cld_DoubleName, .cell (some (.ref C_DoubleName)), csl_DoubleName⟩)
    (aC_BadNumber : PySem.W.nsIn K mainGlobals "BadNumber" = some (some (.ref C_BadNumber)))
    (xL_BadNumber : K.lookup C_BadNumber = some (excClassObj nm_BadNumber q_BadNumber C_BadNumber N_BadNumber bs_BadNumber bm_BadNumber true sn_BadNumber sub_BadNumber ab_BadNumber col_BadNumber dd_BadNumber m0_BadNumber m1_BadNumber m2_BadNumber m3_BadNumber m5_BadNumber "ValueError.__new__"))
    (bm_BadNumber : PySem.HandSPX.refsVE bm_BadNumber = true)
    (sa_BadNumber : PySem.W.findIn K (.ref C_BadNumber) "__setattr__" = some (some (.builtin "object.__setattr__")))
    (ga_BadNumber : PySem.W.findIn K (.ref C_BadNumber) "__getattribute__" = some (some (.builtin "BaseException.__getattribute__")))
    (gg_BadNumber : PySem.W.findIn K (.ref C_BadNumber) "__getattr__" = some none)
    (no_number_BadNumber : PySem.W.findIn K (.ref C_BadNumber) "number" = some none)
    (iC_BadNumber : PySem.W.findIn K (.ref C_BadNumber) "__init__" = some (some (.ref fI_BadNumber)))
    (tI_BadNumber : PySem.W.typeIn K (.ref fI_BadNumber) = some (.type "function"))
    (kC_BadNumber : PySem.W.keepIn K (.ref C_BadNumber) = true)
    (ex_BadNumber : PySem.W.subIn K (.ref C_BadNumber) (.type "BaseException") = some true)
    (ve_BadNumber : PySem.W.subIn K (.ref C_BadNumber) (.type "ValueError") = some true)
    (ty_BadNumber : PySem.W.typeIn K (.ref C_BadNumber) = some (.type "type"))
    (hd_BadNumber : PySem.W.hasDictIn K C_BadNumber = true)
    (sup_BadNumber : PySem.W.ks_superIn K C_BadNumber C_BadNumber "__init__" = some (some (.builtin "ValueError.__init__")))
    (mro_BadNumber : PySem.W.mroIn K C_BadNumber (.ref C_BadNumber) = some true)
    (su_BadNumber : PySem.W.subIn K (.ref C_BadNumber) (.ref C_BadNumber) = some true)
    (ca_BadNumber : PySem.W.findIn K (.ref C_BadNumber) "__class__" = some (some (.builtin "object.__class__")))
    (mo_BadNumber : PySem.W.mroIn K C_BadNumber (.type "object") = some true)
    (l_BadNumber : K.lookup fI_BadNumber = some ⟨oc_BadNumber, od_BadNumber, .func (PySem.W.ksFn "__init__" "BadNumber.__init__" (defArgs (inClass (topS 4) 0)) (defBody (inClass (topS 4) 0)) (defScope (inClass (topS 4) 0)) .none kV_BadNumber dc_BadNumber pm_BadNumber an_BadNumber (.ref cda_BadNumber) ct_BadNumber cc_BadNumber), sl_BadNumber⟩)
    (c_BadNumber : PySem.W.codeIn K (.ref cda_BadNumber) "BadNumber.__init__" = true)
    (lc_BadNumber : K.lookup cda_BadNumber = some ⟨ccl_BadNumber, cdd_BadNumber, .fields vs_BadNumber, ccs_BadNumber⟩)
    (v2_BadNumber : vs_BadNumber[2]? = some (.str file_BadNumber tf_BadNumber))
    (fl_BadNumber : ((P.main.file : Str) == file_BadNumber) = true)
    (cc_BadNumber : K.lookup cc_BadNumber = some ⟨cl_BadNumber, cld_BadNumber, .cell (some (.ref C_BadNumber)), csl_BadNumber⟩)
    (aC_EmptyStep : PySem.W.nsIn K mainGlobals "EmptyStep" = some (some (.ref C_EmptyStep)))
    (xL_EmptyStep : K.lookup C_EmptyStep = some (excClassObj nm_EmptyStep q_EmptyStep C_EmptyStep N_EmptyStep bs_EmptyStep bm_EmptyStep true sn_EmptyStep sub_EmptyStep ab_EmptyStep col_EmptyStep dd_EmptyStep m0_EmptyStep m1_EmptyStep m2_EmptyStep m3_EmptyStep m5_EmptyStep "ValueError.__new__"))
    (bm_EmptyStep : PySem.HandSPX.refsVE bm_EmptyStep = true)
    (sa_EmptyStep : PySem.W.findIn K (.ref C_EmptyStep) "__setattr__" = some (some (.builtin "object.__setattr__")))
    (ga_EmptyStep : PySem.W.findIn K (.ref C_EmptyStep) "__getattribute__" = some (some (.builtin "BaseException.__getattribute__")))
    (gg_EmptyStep : PySem.W.findIn K (.ref C_EmptyStep) "__getattr__" = some none)
    (no_name_EmptyStep : PySem.W.findIn K (.ref C_EmptyStep) "name" = some none)
    (iC_EmptyStep : PySem.W.findIn K (.ref C_EmptyStep) "__init__" = some (some (.ref fI_EmptyStep)))
    (tI_EmptyStep : PySem.W.typeIn K (.ref fI_EmptyStep) = some (.type "function"))
    (kC_EmptyStep : PySem.W.keepIn K (.ref C_EmptyStep) = true)
    (ex_EmptyStep : PySem.W.subIn K (.ref C_EmptyStep) (.type "BaseException") = some true)
    (ve_EmptyStep : PySem.W.subIn K (.ref C_EmptyStep) (.type "ValueError") = some true)
    (ty_EmptyStep : PySem.W.typeIn K (.ref C_EmptyStep) = some (.type "type"))
    (hd_EmptyStep : PySem.W.hasDictIn K C_EmptyStep = true)
    (sup_EmptyStep : PySem.W.ks_superIn K C_EmptyStep C_EmptyStep "__init__" = some (some (.builtin "ValueError.__init__")))
    (mro_EmptyStep : PySem.W.mroIn K C_EmptyStep (.ref C_EmptyStep) = some true)
    (su_EmptyStep : PySem.W.subIn K (.ref C_EmptyStep) (.ref C_EmptyStep) = some true)
    (ca_EmptyStep : PySem.W.findIn K (.ref C_EmptyStep) "__class__" = some (some (.builtin "object.__class__")))
    (mo_EmptyStep : PySem.W.mroIn K C_EmptyStep (.type "object") = some true)
    (l_EmptyStep : K.lookup fI_EmptyStep = some ⟨oc_EmptyStep, od_EmptyStep, .func (PySem.W.ksFn "__init__" "EmptyStep.__init__" (defArgs (inClass (topS 7) 0)) (defBody (inClass (topS 7) 0)) (defScope (inClass (topS 7) 0)) .none kV_EmptyStep dc_EmptyStep pm_EmptyStep an_EmptyStep (.ref cda_EmptyStep) ct_EmptyStep cc_EmptyStep), sl_EmptyStep⟩)
    (c_EmptyStep : PySem.W.codeIn K (.ref cda_EmptyStep) "EmptyStep.__init__" = true)
    (lc_EmptyStep : K.lookup cda_EmptyStep = some ⟨ccl_EmptyStep, cdd_EmptyStep, .fields vs_EmptyStep, ccs_EmptyStep⟩)
    (v2_EmptyStep : vs_EmptyStep[2]? = some (.str file_EmptyStep tf_EmptyStep))
    (fl_EmptyStep : ((P.main.file : Str) == file_EmptyStep) = true)
    (cc_EmptyStep : K.lookup cc_EmptyStep = some ⟨cl_EmptyStep, cld_EmptyStep, .cell (some (.ref C_EmptyStep)), csl_EmptyStep⟩)
    (aC_UnknownName : PySem.W.nsIn K mainGlobals "UnknownName" = some (some (.ref C_UnknownName)))
    (xL_UnknownName : K.lookup C_UnknownName = some (excClassObj nm_UnknownName q_UnknownName C_UnknownName N_UnknownName bs_UnknownName bm_UnknownName true sn_UnknownName sub_UnknownName ab_UnknownName col_UnknownName dd_UnknownName m0_UnknownName m1_UnknownName m2_UnknownName m3_UnknownName m5_UnknownName "ValueError.__new__"))
    (bm_UnknownName : PySem.HandSPX.refsVE bm_UnknownName = true)
    (sa_UnknownName : PySem.W.findIn K (.ref C_UnknownName) "__setattr__" = some (some (.builtin "object.__setattr__")))
    (ga_UnknownName : PySem.W.findIn K (.ref C_UnknownName) "__getattribute__" = some (some (.builtin "BaseException.__getattribute__")))
    (gg_UnknownName : PySem.W.findIn K (.ref C_UnknownName) "__getattr__" = some none)
    (no_name_UnknownName : PySem.W.findIn K (.ref C_UnknownName) "name" = some none)
    (iC_UnknownName : PySem.W.findIn K (.ref C_UnknownName) "__init__" = some (some (.ref fI_UnknownName)))
    (tI_UnknownName : PySem.W.typeIn K (.ref fI_UnknownName) = some (.type "function"))
    (kC_UnknownName : PySem.W.keepIn K (.ref C_UnknownName) = true)
    (ex_UnknownName : PySem.W.subIn K (.ref C_UnknownName) (.type "BaseException") = some true)
    (ve_UnknownName : PySem.W.subIn K (.ref C_UnknownName) (.type "ValueError") = some true)
    (ty_UnknownName : PySem.W.typeIn K (.ref C_UnknownName) = some (.type "type"))
    (hd_UnknownName : PySem.W.hasDictIn K C_UnknownName = true)
    (sup_UnknownName : PySem.W.ks_superIn K C_UnknownName C_UnknownName "__init__" = some (some (.builtin "ValueError.__init__")))
    (mro_UnknownName : PySem.W.mroIn K C_UnknownName (.ref C_UnknownName) = some true)
    (su_UnknownName : PySem.W.subIn K (.ref C_UnknownName) (.ref C_UnknownName) = some true)
    (ca_UnknownName : PySem.W.findIn K (.ref C_UnknownName) "__class__" = some (some (.builtin "object.__class__")))
    (mo_UnknownName : PySem.W.mroIn K C_UnknownName (.type "object") = some true)
    (l_UnknownName : K.lookup fI_UnknownName = some ⟨oc_UnknownName, od_UnknownName, .func (PySem.W.ksFn "__init__" "UnknownName.__init__" (defArgs (inClass (topS 5) 0)) (defBody (inClass (topS 5) 0)) (defScope (inClass (topS 5) 0)) .none kV_UnknownName dc_UnknownName pm_UnknownName an_UnknownName (.ref cda_UnknownName) ct_UnknownName cc_UnknownName), sl_UnknownName⟩)
    (c_UnknownName : PySem.W.codeIn K (.ref cda_UnknownName) "UnknownName.__init__" = true)
    (lc_UnknownName : K.lookup cda_UnknownName = some ⟨ccl_UnknownName, cdd_UnknownName, .fields vs_UnknownName, ccs_UnknownName⟩)
    (v2_UnknownName : vs_UnknownName[2]? = some (.str file_UnknownName tf_UnknownName))
    (fl_UnknownName : ((P.main.file : Str) == file_UnknownName) = true)
    (cc_UnknownName : K.lookup cc_UnknownName = some ⟨cl_UnknownName, cld_UnknownName, .cell (some (.ref C_UnknownName)), csl_UnknownName⟩)
    (aC_BadPair : PySem.W.nsIn K mainGlobals "BadPair" = some (some (.ref C_BadPair)))
    (xL_BadPair : K.lookup C_BadPair = some (excClassObj nm_BadPair q_BadPair C_BadPair N_BadPair bs_BadPair bm_BadPair true sn_BadPair sub_BadPair ab_BadPair col_BadPair dd_BadPair m0_BadPair m1_BadPair m2_BadPair m3_BadPair m5_BadPair "ValueError.__new__"))
    (bm_BadPair : PySem.HandSPX.refsVE bm_BadPair = true)
    (sa_BadPair : PySem.W.findIn K (.ref C_BadPair) "__setattr__" = some (some (.builtin "object.__setattr__")))
    (ga_BadPair : PySem.W.findIn K (.ref C_BadPair) "__getattribute__" = some (some (.builtin "BaseException.__getattribute__")))
    (gg_BadPair : PySem.W.findIn K (.ref C_BadPair) "__getattr__" = some none)
    (no_name_BadPair : PySem.W.findIn K (.ref C_BadPair) "name" = some none)
    (iC_BadPair : PySem.W.findIn K (.ref C_BadPair) "__init__" = some (some (.ref fI_BadPair)))
    (tI_BadPair : PySem.W.typeIn K (.ref fI_BadPair) = some (.type "function"))
    (kC_BadPair : PySem.W.keepIn K (.ref C_BadPair) = true)
    (ex_BadPair : PySem.W.subIn K (.ref C_BadPair) (.type "BaseException") = some true)
    (ve_BadPair : PySem.W.subIn K (.ref C_BadPair) (.type "ValueError") = some true)
    (ty_BadPair : PySem.W.typeIn K (.ref C_BadPair) = some (.type "type"))
    (hd_BadPair : PySem.W.hasDictIn K C_BadPair = true)
    (sup_BadPair : PySem.W.ks_superIn K C_BadPair C_BadPair "__init__" = some (some (.builtin "ValueError.__init__")))
    (mro_BadPair : PySem.W.mroIn K C_BadPair (.ref C_BadPair) = some true)
    (su_BadPair : PySem.W.subIn K (.ref C_BadPair) (.ref C_BadPair) = some true)
    (ca_BadPair : PySem.W.findIn K (.ref C_BadPair) "__class__" = some (some (.builtin "object.__class__")))
    (mo_BadPair : PySem.W.mroIn K C_BadPair (.type "object") = some true)
    (l_BadPair : K.lookup fI_BadPair = some ⟨oc_BadPair, od_BadPair, .func (PySem.W.ksFn "__init__" "BadPair.__init__" (defArgs (inClass (topS 9) 0)) (defBody (inClass (topS 9) 0)) (defScope (inClass (topS 9) 0)) .none kV_BadPair dc_BadPair pm_BadPair an_BadPair (.ref cda_BadPair) ct_BadPair cc_BadPair), sl_BadPair⟩)
    (c_BadPair : PySem.W.codeIn K (.ref cda_BadPair) "BadPair.__init__" = true)
    (lc_BadPair : K.lookup cda_BadPair = some ⟨ccl_BadPair, cdd_BadPair, .fields vs_BadPair, ccs_BadPair⟩)
    (v2_BadPair : vs_BadPair[2]? = some (.str file_BadPair tf_BadPair))
    (fl_BadPair : ((P.main.file : Str) == file_BadPair) = true)
    (cc_BadPair : K.lookup cc_BadPair = some ⟨cl_BadPair, cld_BadPair, .cell (some (.ref C_BadPair)), csl_BadPair⟩)
    (aC_Plan : PySem.W.nsIn K mainGlobals "Plan" = some (some (.ref C_Plan)))
    (pg_Plan : PySem.W.plainGet K C_Plan Str.empty = true)
    (hd_Plan : PySem.W.hasDictIn K C_Plan = true)
    (po_Plan : PySem.W.plainOver K C_Plan = true)
    (sa_Plan : PySem.W.findIn K (.ref C_Plan) "__setattr__" = some (some (.builtin "object.__setattr__")))
    (no_places_Plan : PySem.W.findIn K (.ref C_Plan) "places" = some none)
    (no_begin_Plan : PySem.W.findIn K (.ref C_Plan) "begin" = some none)
    (no_taken_Plan : PySem.W.findIn K (.ref C_Plan) "taken" = some none)
    (no_given_Plan : PySem.W.findIn K (.ref C_Plan) "given" = some none)
    (no_steps_Plan : PySem.W.findIn K (.ref C_Plan) "steps" = some none)
    (ca_Plan : PySem.W.findIn K (.ref C_Plan) "__class__" = some (some (.builtin "object.__class__")))
    (mo_Plan : PySem.W.mroIn K C_Plan (.type "object") = some true)
    (mk_Plan : PySem.W.makesIn K C_Plan = true)
    (kC_Plan : PySem.W.keepIn K (.ref C_Plan) = true)
    (a_Plan___init__ : PySem.W.findIn K (.ref C_Plan) "__init__" = some (some (.ref f_Plan___init__)))
    (i_Plan___init__ : PySem.W.isFn K (.ref f_Plan___init__) = true)
    (l_Plan___init__ : K.lookup f_Plan___init__ = some ⟨oc_Plan___init__, od_Plan___init__, .func (PySem.W.fnOf "__init__" "Plan.__init__" (defArgs s_Plan___init__) (defBody s_Plan___init__) (defScope s_Plan___init__) .none kV_Plan___init__ dc_Plan___init__ pm_Plan___init__ an_Plan___init__ cd_Plan___init__ ct_Plan___init__), sl_Plan___init__⟩)
    (c_Plan___init__ : PySem.W.codeIn K cd_Plan___init__ "Plan.__init__" = true)
    (k_Plan___init__ : PySem.W.keepIn K (.ref f_Plan___init__) = true)
    (a_Plan_put_step : PySem.W.findIn K (.ref C_Plan) "put_step" = some (some (.ref f_Plan_put_step)))
    (i_Plan_put_step : PySem.W.isFn K (.ref f_Plan_put_step) = true)
    (l_Plan_put_step : K.lookup f_Plan_put_step = some ⟨oc_Plan_put_step, od_Plan_put_step, .func (PySem.W.fnOf "put_step" "Plan.put_step" (defArgs s_Plan_put_step) (defBody s_Plan_put_step) (defScope s_Plan_put_step) .none kV_Plan_put_step dc_Plan_put_step pm_Plan_put_step an_Plan_put_step cd_Plan_put_step ct_Plan_put_step), sl_Plan_put_step⟩)
    (c_Plan_put_step : PySem.W.codeIn K cd_Plan_put_step "Plan.put_step" = true)
    (k_Plan_put_step : PySem.W.keepIn K (.ref f_Plan_put_step) = true)
    (a_Plan_place_rows : PySem.W.findIn K (.ref C_Plan) "place_rows" = some (some (.ref f_Plan_place_rows)))
    (i_Plan_place_rows : PySem.W.isFn K (.ref f_Plan_place_rows) = true)
    (l_Plan_place_rows : K.lookup f_Plan_place_rows = some ⟨oc_Plan_place_rows, od_Plan_place_rows, .func (PySem.W.fnOf "place_rows" "Plan.place_rows" (defArgs s_Plan_place_rows) (defBody s_Plan_place_rows) (defScope s_Plan_place_rows) .none kV_Plan_place_rows dc_Plan_place_rows pm_Plan_place_rows an_Plan_place_rows cd_Plan_place_rows ct_Plan_place_rows), sl_Plan_place_rows⟩)
    (c_Plan_place_rows : PySem.W.codeIn K cd_Plan_place_rows "Plan.place_rows" = true)
    (k_Plan_place_rows : PySem.W.keepIn K (.ref f_Plan_place_rows) = true)
    (a_Plan_step_rows : PySem.W.findIn K (.ref C_Plan) "step_rows" = some (some (.ref f_Plan_step_rows)))
    (i_Plan_step_rows : PySem.W.isFn K (.ref f_Plan_step_rows) = true)
    (l_Plan_step_rows : K.lookup f_Plan_step_rows = some ⟨oc_Plan_step_rows, od_Plan_step_rows, .func (PySem.W.fnOf "step_rows" "Plan.step_rows" (defArgs s_Plan_step_rows) (defBody s_Plan_step_rows) (defScope s_Plan_step_rows) .none kV_Plan_step_rows dc_Plan_step_rows pm_Plan_step_rows an_Plan_step_rows cd_Plan_step_rows ct_Plan_step_rows), sl_Plan_step_rows⟩)
    (c_Plan_step_rows : PySem.W.codeIn K cd_Plan_step_rows "Plan.step_rows" = true)
    (k_Plan_step_rows : PySem.W.keepIn K (.ref f_Plan_step_rows) = true)
    (a_Plan___eq__ : PySem.W.findIn K (.ref C_Plan) "__eq__" = some (some (.ref f_Plan___eq__)))
    (i_Plan___eq__ : PySem.W.isFn K (.ref f_Plan___eq__) = true)
    (l_Plan___eq__ : K.lookup f_Plan___eq__ = some ⟨oc_Plan___eq__, od_Plan___eq__, .func (PySem.W.fnOf "__eq__" "Plan.__eq__" (defArgs s_Plan___eq__) (defBody s_Plan___eq__) (defScope s_Plan___eq__) .none kV_Plan___eq__ dc_Plan___eq__ pm_Plan___eq__ an_Plan___eq__ cd_Plan___eq__ ct_Plan___eq__), sl_Plan___eq__⟩)
    (c_Plan___eq__ : PySem.W.codeIn K cd_Plan___eq__ "Plan.__eq__" = true)
    (k_Plan___eq__ : PySem.W.keepIn K (.ref f_Plan___eq__) = true)
    (a_Plan___getitem__ : PySem.W.findIn K (.ref C_Plan) "__getitem__" = some (some (.ref f_Plan___getitem__)))
    (i_Plan___getitem__ : PySem.W.isFn K (.ref f_Plan___getitem__) = true)
    (l_Plan___getitem__ : K.lookup f_Plan___getitem__ = some ⟨oc_Plan___getitem__, od_Plan___getitem__, .func (PySem.W.fnOf "__getitem__" "Plan.__getitem__" (defArgs s_Plan___getitem__) (defBody s_Plan___getitem__) (defScope s_Plan___getitem__) .none kV_Plan___getitem__ dc_Plan___getitem__ pm_Plan___getitem__ an_Plan___getitem__ cd_Plan___getitem__ ct_Plan___getitem__), sl_Plan___getitem__⟩)
    (c_Plan___getitem__ : PySem.W.codeIn K cd_Plan___getitem__ "Plan.__getitem__" = true)
    (k_Plan___getitem__ : PySem.W.keepIn K (.ref f_Plan___getitem__) = true)
    (si_Plan : PySem.W.subIn K (.type "int") (.ref C_Plan) = some false)
    (is_Plan : PySem.W.subIn K (.ref C_Plan) (.type "int") = some false)
    (ne_Plan : PySem.W.findIn K (.ref C_Plan) "__ne__" = some (some (.builtin "object.__ne__")))
    (kt_Plan_Plan : PySem.W.kitOne K (.ref C_Plan) (.ref C_Plan) = some true)
    (kt_UnknownName_BadPair : PySem.W.kitOne K (.ref C_UnknownName) (.ref C_BadPair) = some false)
    (kt_UnknownName_BadWord : PySem.W.kitOne K (.ref C_UnknownName) (.ref C_BadWord) = some false)
    (kt_UnknownName_DoubleName : PySem.W.kitOne K (.ref C_UnknownName) (.ref C_DoubleName) = some false)
    (kt_UnknownName_HeldError : PySem.W.kitOne K (.ref C_UnknownName) (.ref C_HeldError) = some true)
    (kt_UnknownName_TooMany : PySem.W.kitOne K (.ref C_UnknownName) (.ref C_TooMany) = some false)
    (kt_UnknownName_UnknownName : PySem.W.kitOne K (.ref C_UnknownName) (.ref C_UnknownName) = some true)
    (kt_DoubleName_BadPair : PySem.W.kitOne K (.ref C_DoubleName) (.ref C_BadPair) = some false)
    (kt_DoubleName_BadWord : PySem.W.kitOne K (.ref C_DoubleName) (.ref C_BadWord) = some false)
    (kt_DoubleName_DoubleName : PySem.W.kitOne K (.ref C_DoubleName) (.ref C_DoubleName) = some true)
    (kt_DoubleName_HeldError : PySem.W.kitOne K (.ref C_DoubleName) (.ref C_HeldError) = some true)
    (kt_DoubleName_TooMany : PySem.W.kitOne K (.ref C_DoubleName) (.ref C_TooMany) = some false)
    (kt_DoubleName_UnknownName : PySem.W.kitOne K (.ref C_DoubleName) (.ref C_UnknownName) = some false)
    (kt_BadWord_BadPair : PySem.W.kitOne K (.ref C_BadWord) (.ref C_BadPair) = some false)
    (kt_BadWord_BadWord : PySem.W.kitOne K (.ref C_BadWord) (.ref C_BadWord) = some true)
    (kt_BadWord_DoubleName : PySem.W.kitOne K (.ref C_BadWord) (.ref C_DoubleName) = some false)
    (kt_BadWord_HeldError : PySem.W.kitOne K (.ref C_BadWord) (.ref C_HeldError) = some true)
    (kt_BadWord_TooMany : PySem.W.kitOne K (.ref C_BadWord) (.ref C_TooMany) = some false)
    (kt_BadWord_UnknownName : PySem.W.kitOne K (.ref C_BadWord) (.ref C_UnknownName) = some false)
    (kt_TooMany_BadPair : PySem.W.kitOne K (.ref C_TooMany) (.ref C_BadPair) = some false)
    (kt_TooMany_BadWord : PySem.W.kitOne K (.ref C_TooMany) (.ref C_BadWord) = some false)
    (kt_TooMany_DoubleName : PySem.W.kitOne K (.ref C_TooMany) (.ref C_DoubleName) = some false)
    (kt_TooMany_HeldError : PySem.W.kitOne K (.ref C_TooMany) (.ref C_HeldError) = some true)
    (kt_TooMany_TooMany : PySem.W.kitOne K (.ref C_TooMany) (.ref C_TooMany) = some true)
    (kt_TooMany_UnknownName : PySem.W.kitOne K (.ref C_TooMany) (.ref C_UnknownName) = some false)
    (xN_BadWord_DoubleName : PySem.W.exmOne K (.ref C_BadWord) (.ref C_DoubleName) = some false)
    (xN_BadWord_UnknownName : PySem.W.exmOne K (.ref C_BadWord) (.ref C_UnknownName) = some false)
    (xN_DoubleName_UnknownName : PySem.W.exmOne K (.ref C_DoubleName) (.ref C_UnknownName) = some false)
    (xN_TooMany_BadWord : PySem.W.exmOne K (.ref C_TooMany) (.ref C_BadWord) = some false)
    (xN_TooMany_DoubleName : PySem.W.exmOne K (.ref C_TooMany) (.ref C_DoubleName) = some false)
    (xN_TooMany_UnknownName : PySem.W.exmOne K (.ref C_TooMany) (.ref C_UnknownName) = some false) :
    ∃ fd : FuncData, (∀ (s : Shared) (v : Value), BindsTo s fd ⟨[v], []⟩ [("_law_script", v)]) ∧ ∀ base : Heap, K.In base → base.Ns mainGlobals mg → FnOk P w K mg base CX0 9 fa fd ["_law_script"] (spLaw K) := by
  have e := hfa.symm.trans (PySem.W.mg_of X G a_law)
  cases e
  have B : Bl mg := ⟨PySem.W.mg_none_of X G z_len, PySem.W.mg_none_of X G z_range, PySem.W.mg_none_of X G z_abs, PySem.W.mg_none_of X G z_sum, PySem.W.mg_none_of X G z_sorted, PySem.W.mg_none_of X G z_isinstance, PySem.W.mg_none_of X G z_zip, PySem.W.mg_none_of X G z_enumerate, PySem.W.mg_none_of X G z_reversed, PySem.W.mg_none_of X G z_int, PySem.W.mg_none_of X G z_str, PySem.W.mg_none_of X G z_list, PySem.W.mg_none_of X G z_tuple, PySem.W.mg_none_of X G z_bool, PySem.W.mg_none_of X G z_all, PySem.W.mg_none_of X G z_any, PySem.W.mg_none_of X G z_ValueError⟩
  have g_LETTERS := glo_str X G a_LETTERS
  have g_DIGITS := glo_str X G a_DIGITS
  have g_MOST_SIGNS := glo_int X G a_MOST_SIGNS
  have g_MOST_PLACES := glo_int X G a_MOST_PLACES
  have g_MOST_STEPS := glo_int X G a_MOST_STEPS
  have g_MOST_BEGIN := glo_int X G a_MOST_BEGIN
  have F__law_box : Src K mg "_law_box" s__law_box ["_law_script"] := src_mk X G a__law_box l__law_box c__law_box k__law_box (fun _ _ _ _ _ _ us hl => match us, hl with | [_], _ => rfl)
  have F__law_draw : Src K mg "_law_draw" s__law_draw ["_law_box_here", "_law_limit"] := src_mk X G a__law_draw l__law_draw c__law_draw k__law_draw (fun _ _ _ _ _ _ us hl => match us, hl with | [_, _], _ => rfl)
  have F_is_word : Src K mg "is_word" s_is_word ["word"] := src_mk X G a_is_word l_is_word c_is_word k_is_word (fun _ _ _ _ _ _ us hl => match us, hl with | [_], _ => rfl)
  have F_check_word : Src K mg "check_word" s_check_word ["word"] := src_mk X G a_check_word l_check_word c_check_word k_check_word (fun _ _ _ _ _ _ us hl => match us, hl with | [_], _ => rfl)
  have F_check_number : Src K mg "check_number" s_check_number ["number", "least", "most"] := src_mk X G a_check_number l_check_number c_check_number k_check_number (fun _ _ _ _ _ _ us hl => match us, hl with | [_, _, _], _ => rfl)
  have F_check_names : Src K mg "check_names" s_check_names ["names", "known"] := src_mk X G a_check_names l_check_names c_check_names k_check_names (fun _ _ _ _ _ _ us hl => match us, hl with | [_, _], _ => rfl)
  have F_in_order : Src K mg "in_order" s_in_order ["names", "places"] := src_mk X G a_in_order l_in_order c_in_order k_in_order (fun _ _ _ _ _ _ us hl => match us, hl with | [_, _], _ => rfl)
  have F__law_word : Src K mg "_law_word" s__law_word ["_law_box_here"] := src_mk X G a__law_word l__law_word c__law_word k__law_word (fun _ _ _ _ _ _ us hl => match us, hl with | [_], _ => rfl)
  have F__law_fresh : Src K mg "_law_fresh" s__law_fresh ["_law_box_here", "_law_used"] := src_mk X G a__law_fresh l__law_fresh c__law_fresh k__law_fresh (fun _ _ _ _ _ _ us hl => match us, hl with | [_, _], _ => rfl)
  have F__law_words : Src K mg "_law_words" s__law_words ["_law_box_here", "_law_many"] := src_mk X G a__law_words l__law_words c__law_words k__law_words (fun _ _ _ _ _ _ us hl => match us, hl with | [_, _], _ => rfl)
  have F__law_pick : Src K mg "_law_pick" s__law_pick ["_law_box_here", "_law_words_here", "_law_least"] := src_mk X G a__law_pick l__law_pick c__law_pick k__law_pick (fun _ _ _ _ _ _ us hl => match us, hl with | [_, _, _], _ => rfl)
  have F__law_any : Src K mg "_law_any" s__law_any ["_law_box_here", "_law_most_places", "_law_most_steps"] := src_mk X G a__law_any l__law_any c__law_any k__law_any (fun _ _ _ _ _ _ us hl => match us, hl with | [_, _, _], _ => rfl)
  have F__law_stretched : Src K mg "_law_stretched" s__law_stretched ["_law_rows", "_law_place", "_law_word_here", "_law_name"] := src_mk X G a__law_stretched l__law_stretched c__law_stretched k__law_stretched (fun _ _ _ _ _ _ us hl => match us, hl with | [_, _, _, _], _ => rfl)
  have F__law_twinned : Src K mg "_law_twinned" s__law_twinned ["_law_rows", "_law_place", "_law_word_here"] := src_mk X G a__law_twinned l__law_twinned c__law_twinned k__law_twinned (fun _ _ _ _ _ _ us hl => match us, hl with | [_, _, _], _ => rfl)
  have F__law_echoed : Src K mg "_law_echoed" s__law_echoed ["_law_rows", "_law_step", "_law_name"] := src_mk X G a__law_echoed l__law_echoed c__law_echoed k__law_echoed (fun _ _ _ _ _ _ us hl => match us, hl with | [_, _, _], _ => rfl)
  have F__law_detoured : Src K mg "_law_detoured" s__law_detoured ["_law_rows", "_law_place", "_law_word_here", "_law_go", "_law_come"] := src_mk X G a__law_detoured l__law_detoured c__law_detoured k__law_detoured (fun _ _ _ _ _ _ us hl => match us, hl with | [_, _, _, _, _], _ => rfl)
  have F__law_alone : Src K mg "_law_alone" s__law_alone ["_law_rows", "_law_place"] := src_mk X G a__law_alone l__law_alone c__law_alone k__law_alone (fun _ _ _ _ _ _ us hl => match us, hl with | [_, _], _ => rfl)
  have F__law_ring : Src K mg "_law_ring" s__law_ring ["_law_box_here"] := src_mk X G a__law_ring l__law_ring c__law_ring k__law_ring (fun _ _ _ _ _ _ us hl => match us, hl with | [_], _ => rfl)
  have F__law_grown : Src K mg "_law_grown" s__law_grown ["_law_box_here", "_law_most"] := src_mk X G a__law_grown l__law_grown c__law_grown k__law_grown (fun _ _ _ _ _ _ us hl => match us, hl with | [_, _], _ => rfl)
  have F_check_place : Src K mg "check_place" s_check_place ["plan", "place"] := src_mk X G a_check_place l_check_place c_check_place k_check_place (fun _ _ _ _ _ _ us hl => match us, hl with | [_, _], _ => rfl)
  have F_with_place : Src K mg "with_place" s_with_place ["places", "place", "new_place"] := src_mk X G a_with_place l_with_place c_with_place k_with_place (fun _ _ _ _ _ _ us hl => match us, hl with | [_, _, _], _ => rfl)
  have F_stretch : Src K mg "stretch" s_stretch ["plan", "place", "new_place", "new_step"] := src_mk X G a_stretch l_stretch c_stretch k_stretch (fun _ _ _ _ _ _ us hl => match us, hl with | [_, _, _, _], _ => rfl)
  have F_twin : Src K mg "twin" s_twin ["plan", "place", "new_place"] := src_mk X G a_twin l_twin c_twin k_twin (fun _ _ _ _ _ _ us hl => match us, hl with | [_, _, _], _ => rfl)
  have F__law_copy : Src K mg "_law_copy" s__law_copy ["_law_rows"] := src_mk X G a__law_copy l__law_copy c__law_copy k__law_copy (fun _ _ _ _ _ _ us hl => match us, hl with | [_], _ => rfl)
  have F__law_plan : Src K mg "_law_plan" s__law_plan ["_law_rows"] := src_mk X G a__law_plan l__law_plan c__law_plan k__law_plan (fun _ _ _ _ _ _ us hl => match us, hl with | [_], _ => rfl)
  have F__law_ordered : Src K mg "_law_ordered" s__law_ordered ["_law_rows"] := src_mk X G a__law_ordered l__law_ordered c__law_ordered k__law_ordered (fun _ _ _ _ _ _ us hl => match us, hl with | [_], _ => rfl)
  have F__law_is_plan : Src K mg "_law_is_plan" s__law_is_plan ["_law_plan_here", "_law_rows"] := src_mk X G a__law_is_plan l__law_is_plan c__law_is_plan k__law_is_plan (fun _ _ _ _ _ _ us hl => match us, hl with | [_, _], _ => rfl)
  have F__law_good : Src K mg "_law_good" s__law_good ["_law_word_here"] := src_mk X G a__law_good l__law_good c__law_good k__law_good (fun _ _ _ _ _ _ us hl => match us, hl with | [_], _ => rfl)
  have F__law_words_due : Src K mg "_law_words_due" s__law_words_due ["_law_words_here"] := src_mk X G a__law_words_due l__law_words_due c__law_words_due k__law_words_due (fun _ _ _ _ _ _ us hl => match us, hl with | [_], _ => rfl)
  have F__law_built_due : Src K mg "_law_built_due" s__law_built_due ["_law_rows"] := src_mk X G a__law_built_due l__law_built_due c__law_built_due k__law_built_due (fun _ _ _ _ _ _ us hl => match us, hl with | [_], _ => rfl)
  have F__law_new : Src K mg "_law_new" s__law_new ["_law_box_here", "_law_used"] := src_mk X G a__law_new l__law_new c__law_new k__law_new (fun _ _ _ _ _ _ us hl => match us, hl with | [_, _], _ => rfl)
  have F__law_old : Src K mg "_law_old" s__law_old ["_law_box_here", "_law_used"] := src_mk X G a__law_old l__law_old c__law_old k__law_old (fun _ _ _ _ _ _ us hl => match us, hl with | [_, _], _ => rfl)
  have F__law_one_class : Src K mg "_law_one_class" s__law_one_class ["_law_e"] := src_mk X G a__law_one_class l__law_one_class c__law_one_class k__law_one_class (fun _ _ _ _ _ _ us hl => match us, hl with | [_], _ => rfl)
  have F__law_told : Src K mg "_law_told" s__law_told ["_law_plan_here", "_law_place", "_law_word_here", "_law_name", "_law_made"] := src_mk X G a__law_told l__law_told c__law_told k__law_told (fun _ _ _ _ _ _ us hl => match us, hl with | [_, _, _, _, _], _ => rfl)
  have F__law_asked : Src K mg "_law_asked" s__law_asked ["_law_box_here", "_law_plan_here", "_law_rows", "_law_stretching"] := src_mk X G a__law_asked l__law_asked c__law_asked k__law_asked (fun _ _ _ _ _ _ us hl => match us, hl with | [_, _, _, _], _ => rfl)
  have g_HeldError := glo_ref X G aC_HeldError
  have nn_TooMany : ∀ f ∈ (["kind", "limit"] : List Str), PySem.W.findIn K (.ref C_TooMany) f = some none := fun f hf => by
      simp only [List.mem_cons, List.not_mem_nil, or_false] at hf
      rcases hf with rfl | rfl
      · exact no_kind_TooMany
      · exact no_limit_TooMany
  have X_TooMany : ErrTxt P K mg true "TooMany" C_TooMany fI_TooMany ["kind", "limit"] := err_mk (st := inClass (topS 8) 0) (fp := [("kind", _, _, _, _), ("limit", _, _, _, _)]) X G aC_TooMany z_super xL_TooMany bm_TooMany sa_TooMany ga_TooMany gg_TooMany nn_TooMany
    iC_TooMany tI_TooMany kC_TooMany ex_TooMany ve_TooMany ty_TooMany hd_TooMany sup_TooMany mro_TooMany su_TooMany ca_TooMany e_cg e_ct mo_TooMany e_opq top l_TooMany c_TooMany lc_TooMany v2_TooMany fl_TooMany cc_TooMany rfl rfl rfl rfl (by decide +kernel) (by decide +kernel) (by decide +kernel) (by decide +kernel) (by decide +kernel) (by decide +kernel) (by decide +kernel) rfl rfl rfl
    (fun _ _ _ _ _ _ _ s x us hl => match us, hl with | [_, _], _ => .of_eq rfl) (fun x us hl => match us, hl with | [_, _], _ => ⟨by rfl, .cons (by rfl) (.cons (by rfl) (.nil))⟩) (.inr ⟨rfl, _, _, _, _, _, _, rfl, by decide, rfl⟩)
  have nn_BadWord : ∀ f ∈ (["word"] : List Str), PySem.W.findIn K (.ref C_BadWord) f = some none := fun f hf => by
      simp only [List.mem_cons, List.not_mem_nil, or_false] at hf
      rcases hf with rfl
      · exact no_word_BadWord
  have X_BadWord : ErrTxt P K mg false "BadWord" C_BadWord fI_BadWord ["word"] := err_mk (st := inClass (topS 3) 0) (fp := [("word", _, _, _, _)]) X G aC_BadWord z_super xL_BadWord bm_BadWord sa_BadWord ga_BadWord gg_BadWord nn_BadWord
    iC_BadWord tI_BadWord kC_BadWord ex_BadWord ve_BadWord ty_BadWord hd_BadWord sup_BadWord mro_BadWord su_BadWord ca_BadWord e_cg e_ct mo_BadWord e_opq top l_BadWord c_BadWord lc_BadWord v2_BadWord fl_BadWord cc_BadWord rfl rfl rfl rfl (by decide +kernel) (by decide +kernel) (by decide +kernel) (by decide +kernel) (by decide +kernel) (by decide +kernel) (by decide +kernel) rfl rfl rfl
    (fun _ _ _ _ _ _ _ s x us hl => match us, hl with | [_], _ => .of_eq rfl) (fun x us hl => match us, hl with | [_], _ => ⟨by rfl, .cons (by rfl) (.nil)⟩) (.inl ⟨rfl, _, _, _, rfl⟩)
  have nn_DoubleName : ∀ f ∈ (["name"] : List Str), PySem.W.findIn K (.ref C_DoubleName) f = some none := fun f hf => by
      simp only [List.mem_cons, List.not_mem_nil, or_false] at hf
      rcases hf with rfl
      · exact no_name_DoubleName
  have X_DoubleName : ErrTxt P K mg false "DoubleName" C_DoubleName fI_DoubleName ["name"] := err_mk (st := inClass (topS 6) 0) (fp := [("name", _, _, _, _)]) X G aC_DoubleName z_super xL_DoubleName bm_DoubleName sa_DoubleName ga_DoubleName gg_DoubleName nn_DoubleName
    iC_DoubleName tI_DoubleName kC_DoubleName ex_DoubleName ve_DoubleName ty_DoubleName hd_DoubleName sup_DoubleName mro_DoubleName su_DoubleName ca_DoubleName e_cg e_ct mo_DoubleName e_opq top l_DoubleName c_DoubleName lc_DoubleName v2_DoubleName fl_DoubleName cc_DoubleName rfl rfl rfl rfl (by decide +kernel) (by decide +kernel) (by decide +kernel) (by decide +kernel) (by decide +kernel) (by decide +kernel) (by decide +kernel) rfl rfl rfl
    (fun _ _ _ _ _ _ _ s x us hl => match us, hl with | [_], _ => .of_eq rfl) (fun x us hl => match us, hl with | [_], _ => ⟨by rfl, .cons (by rfl) (.nil)⟩) (.inl ⟨rfl, _, _, _, rfl⟩)
  have nn_BadNumber : ∀ f ∈ (["number"] : List Str), PySem.W.findIn K (.ref C_BadNumber) f = some none := fun f hf => by
      simp only [List.mem_cons, List.not_mem_nil, or_false] at hf
      rcases hf with rfl
      · exact no_number_BadNumber
  have X_BadNumber : ErrTxt P K mg false "BadNumber" C_BadNumber fI_BadNumber ["number"] := err_mk (st := inClass (topS 4) 0) (fp := [("number", _, _, _, _)]) X G aC_BadNumber z_super xL_BadNumber bm_BadNumber sa_BadNumber ga_BadNumber gg_BadNumber nn_BadNumber
    iC_BadNumber tI_BadNumber kC_BadNumber ex_BadNumber ve_BadNumber ty_BadNumber hd_BadNumber sup_BadNumber mro_BadNumber su_BadNumber ca_BadNumber e_cg e_ct mo_BadNumber e_opq top l_BadNumber c_BadNumber lc_BadNumber v2_BadNumber fl_BadNumber cc_BadNumber rfl rfl rfl rfl (by decide +kernel) (by decide +kernel) (by decide +kernel) (by decide +kernel) (by decide +kernel) (by decide +kernel) (by decide +kernel) rfl rfl rfl
    (fun _ _ _ _ _ _ _ s x us hl => match us, hl with | [_], _ => .of_eq rfl) (fun x us hl => match us, hl with | [_], _ => ⟨by rfl, .cons (by rfl) (.nil)⟩) (.inl ⟨rfl, _, _, _, rfl⟩)
  have nn_EmptyStep : ∀ f ∈ (["name"] : List Str), PySem.W.findIn K (.ref C_EmptyStep) f = some none := fun f hf => by
      simp only [List.mem_cons, List.not_mem_nil, or_false] at hf
      rcases hf with rfl
      · exact no_name_EmptyStep
  have X_EmptyStep : ErrTxt P K mg false "EmptyStep" C_EmptyStep fI_EmptyStep ["name"] := err_mk (st := inClass (topS 7) 0) (fp := [("name", _, _, _, _)]) X G aC_EmptyStep z_super xL_EmptyStep bm_EmptyStep sa_EmptyStep ga_EmptyStep gg_EmptyStep nn_EmptyStep
    iC_EmptyStep tI_EmptyStep kC_EmptyStep ex_EmptyStep ve_EmptyStep ty_EmptyStep hd_EmptyStep sup_EmptyStep mro_EmptyStep su_EmptyStep ca_EmptyStep e_cg e_ct mo_EmptyStep e_opq top l_EmptyStep c_EmptyStep lc_EmptyStep v2_EmptyStep fl_EmptyStep cc_EmptyStep rfl rfl rfl rfl (by decide +kernel) (by decide +kernel) (by decide +kernel) (by decide +kernel) (by decide +kernel) (by decide +kernel) (by decide +kernel) rfl rfl rfl
    (fun _ _ _ _ _ _ _ s x us hl => match us, hl with | [_], _ => .of_eq rfl) (fun x us hl => match us, hl with | [_], _ => ⟨by rfl, .cons (by rfl) (.nil)⟩) (.inl ⟨rfl, _, _, _, rfl⟩)
  have nn_UnknownName : ∀ f ∈ (["name"] : List Str), PySem.W.findIn K (.ref C_UnknownName) f = some none := fun f hf => by
      simp only [List.mem_cons, List.not_mem_nil, or_false] at hf
      rcases hf with rfl
      · exact no_name_UnknownName
  have X_UnknownName : ErrTxt P K mg false "UnknownName" C_UnknownName fI_UnknownName ["name"] := err_mk (st := inClass (topS 5) 0) (fp := [("name", _, _, _, _)]) X G aC_UnknownName z_super xL_UnknownName bm_UnknownName sa_UnknownName ga_UnknownName gg_UnknownName nn_UnknownName
    iC_UnknownName tI_UnknownName kC_UnknownName ex_UnknownName ve_UnknownName ty_UnknownName hd_UnknownName sup_UnknownName mro_UnknownName su_UnknownName ca_UnknownName e_cg e_ct mo_UnknownName e_opq top l_UnknownName c_UnknownName lc_UnknownName v2_UnknownName fl_UnknownName cc_UnknownName rfl rfl rfl rfl (by decide +kernel) (by decide +kernel) (by decide +kernel) (by decide +kernel) (by decide +kernel) (by decide +kernel) (by decide +kernel) rfl rfl rfl
    (fun _ _ _ _ _ _ _ s x us hl => match us, hl with | [_], _ => .of_eq rfl) (fun x us hl => match us, hl with | [_], _ => ⟨by rfl, .cons (by rfl) (.nil)⟩) (.inl ⟨rfl, _, _, _, rfl⟩)
  have nn_BadPair : ∀ f ∈ (["name"] : List Str), PySem.W.findIn K (.ref C_BadPair) f = some none := fun f hf => by
      simp only [List.mem_cons, List.not_mem_nil, or_false] at hf
      rcases hf with rfl
      · exact no_name_BadPair
  have X_BadPair : ErrTxt P K mg false "BadPair" C_BadPair fI_BadPair ["name"] := err_mk (st := inClass (topS 9) 0) (fp := [("name", _, _, _, _)]) X G aC_BadPair z_super xL_BadPair bm_BadPair sa_BadPair ga_BadPair gg_BadPair nn_BadPair
    iC_BadPair tI_BadPair kC_BadPair ex_BadPair ve_BadPair ty_BadPair hd_BadPair sup_BadPair mro_BadPair su_BadPair ca_BadPair e_cg e_ct mo_BadPair e_opq top l_BadPair c_BadPair lc_BadPair v2_BadPair fl_BadPair cc_BadPair rfl rfl rfl rfl (by decide +kernel) (by decide +kernel) (by decide +kernel) (by decide +kernel) (by decide +kernel) (by decide +kernel) (by decide +kernel) rfl rfl rfl
    (fun _ _ _ _ _ _ _ s x us hl => match us, hl with | [_], _ => .of_eq rfl) (fun x us hl => match us, hl with | [_], _ => ⟨by rfl, .cons (by rfl) (.nil)⟩) (.inl ⟨rfl, _, _, _, rfl⟩)
  have FI_Plan : SrcI K C_Plan "Plan.__init__" s_Plan___init__ ["self", "places", "steps"] := srcI_mk mk_Plan kC_Plan a_Plan___init__ i_Plan___init__ l_Plan___init__ c_Plan___init__ k_Plan___init__ (fun _ _ _ _ _ _ us hl => match us, hl with | [_, _, _], _ => rfl)
  have FM_Plan_put_step : SrcM K C_Plan "put_step" "Plan.put_step" s_Plan_put_step ["self", "word", "takes", "gives"] := srcM_mk a_Plan_put_step i_Plan_put_step l_Plan_put_step c_Plan_put_step k_Plan_put_step (fun _ _ _ _ _ _ us hl => match us, hl with | [_, _, _, _], _ => rfl)
  have FM_Plan_place_rows : SrcM K C_Plan "place_rows" "Plan.place_rows" s_Plan_place_rows ["self"] := srcM_mk a_Plan_place_rows i_Plan_place_rows l_Plan_place_rows c_Plan_place_rows k_Plan_place_rows (fun _ _ _ _ _ _ us hl => match us, hl with | [_], _ => rfl)
  have FM_Plan_step_rows : SrcM K C_Plan "step_rows" "Plan.step_rows" s_Plan_step_rows ["self"] := srcM_mk a_Plan_step_rows i_Plan_step_rows l_Plan_step_rows c_Plan_step_rows k_Plan_step_rows (fun _ _ _ _ _ _ us hl => match us, hl with | [_], _ => rfl)
  have FM_Plan___eq__ : SrcM K C_Plan "__eq__" "Plan.__eq__" s_Plan___eq__ ["self", "other"] := srcM_mk a_Plan___eq__ i_Plan___eq__ l_Plan___eq__ c_Plan___eq__ k_Plan___eq__ (fun _ _ _ _ _ _ us hl => match us, hl with | [_, _], _ => rfl)
  have FM_Plan___getitem__ : SrcM K C_Plan "__getitem__" "Plan.__getitem__" s_Plan___getitem__ ["self", "place"] := srcM_mk a_Plan___getitem__ i_Plan___getitem__ l_Plan___getitem__ c_Plan___getitem__ k_Plan___getitem__ (fun _ _ _ _ _ _ us hl => match us, hl with | [_, _], _ => rfl)
  have GF_Plan : GetFn K C_Plan := fun f h => by
    rw [a_Plan___getitem__] at h
    cases h
    unfold PySem.W.fnIn
    rw [l_Plan___getitem__]
  have m_Plan := PySem.W.mg_of X G aC_Plan
  have CL_Plan : Cls K C_Plan := ⟨pg_Plan, hd_Plan, po_Plan, sa_Plan⟩
  have CC_Plan : CmpC K C_Plan := ⟨si_Plan, is_Plan⟩
  have NC_Plan : NeC K C_Plan := ⟨ne_Plan, mo_Plan⟩
  refine ⟨PySem.W.fnOf "law" "law" (defArgs s_law) (defBody s_law) (defScope s_law) .none kV_law dc_law pm_law an_law cd_law ct_law, fun s v => .of_eq rfl, fun base hK hN => ?_⟩
  obtain ⟨cs, hcs⟩ : ∃ cs : EK → Addr, cs = fun k => match k with | .tooMany => C_TooMany | .badWord => C_BadWord | .double => C_DoubleName | .badNumber => C_BadNumber | .empty => C_EmptyStep | .unknown => C_UnknownName | .inUse => C_TooMany | .badState => C_TooMany | .notReady => C_TooMany | .notSound => C_TooMany | .badPair => C_BadPair | .badText => C_TooMany | .noUndo => C_TooMany := ⟨_, rfl⟩
  have X_TooMany : ErrTxt P K mg true "TooMany" (cs .tooMany) fI_TooMany ["kind", "limit"] := by rw [hcs]; exact X_TooMany
  have X_BadWord : ErrTxt P K mg false "BadWord" (cs .badWord) fI_BadWord ["word"] := by rw [hcs]; exact X_BadWord
  have X_DoubleName : ErrTxt P K mg false "DoubleName" (cs .double) fI_DoubleName ["name"] := by rw [hcs]; exact X_DoubleName
  have X_BadNumber : ErrTxt P K mg false "BadNumber" (cs .badNumber) fI_BadNumber ["number"] := by rw [hcs]; exact X_BadNumber
  have X_EmptyStep : ErrTxt P K mg false "EmptyStep" (cs .empty) fI_EmptyStep ["name"] := by rw [hcs]; exact X_EmptyStep
  have X_UnknownName : ErrTxt P K mg false "UnknownName" (cs .unknown) fI_UnknownName ["name"] := by rw [hcs]; exact X_UnknownName
  have X_BadPair : ErrTxt P K mg false "BadPair" (cs .badPair) fI_BadPair ["name"] := by rw [hcs]; exact X_BadPair
  have kt_UnknownName_BadPair : PySem.W.kitOne K (.ref (cs .unknown)) (.ref (cs .badPair)) = some false := by rw [hcs]; exact kt_UnknownName_BadPair
  have kt_UnknownName_BadWord : PySem.W.kitOne K (.ref (cs .unknown)) (.ref (cs .badWord)) = some false := by rw [hcs]; exact kt_UnknownName_BadWord
  have kt_UnknownName_DoubleName : PySem.W.kitOne K (.ref (cs .unknown)) (.ref (cs .double)) = some false := by rw [hcs]; exact kt_UnknownName_DoubleName
  have kt_UnknownName_HeldError : PySem.W.kitOne K (.ref (cs .unknown)) (.ref C_HeldError) = some true := by rw [hcs]; exact kt_UnknownName_HeldError
  have kt_UnknownName_TooMany : PySem.W.kitOne K (.ref (cs .unknown)) (.ref (cs .tooMany)) = some false := by rw [hcs]; exact kt_UnknownName_TooMany
  have kt_UnknownName_UnknownName : PySem.W.kitOne K (.ref (cs .unknown)) (.ref (cs .unknown)) = some true := by rw [hcs]; exact kt_UnknownName_UnknownName
  have kt_DoubleName_BadPair : PySem.W.kitOne K (.ref (cs .double)) (.ref (cs .badPair)) = some false := by rw [hcs]; exact kt_DoubleName_BadPair
  have kt_DoubleName_BadWord : PySem.W.kitOne K (.ref (cs .double)) (.ref (cs .badWord)) = some false := by rw [hcs]; exact kt_DoubleName_BadWord
  have kt_DoubleName_DoubleName : PySem.W.kitOne K (.ref (cs .double)) (.ref (cs .double)) = some true := by rw [hcs]; exact kt_DoubleName_DoubleName
  have kt_DoubleName_HeldError : PySem.W.kitOne K (.ref (cs .double)) (.ref C_HeldError) = some true := by rw [hcs]; exact kt_DoubleName_HeldError
  have kt_DoubleName_TooMany : PySem.W.kitOne K (.ref (cs .double)) (.ref (cs .tooMany)) = some false := by rw [hcs]; exact kt_DoubleName_TooMany
  have kt_DoubleName_UnknownName : PySem.W.kitOne K (.ref (cs .double)) (.ref (cs .unknown)) = some false := by rw [hcs]; exact kt_DoubleName_UnknownName
  have kt_BadWord_BadPair : PySem.W.kitOne K (.ref (cs .badWord)) (.ref (cs .badPair)) = some false := by rw [hcs]; exact kt_BadWord_BadPair
  have kt_BadWord_BadWord : PySem.W.kitOne K (.ref (cs .badWord)) (.ref (cs .badWord)) = some true := by rw [hcs]; exact kt_BadWord_BadWord
  have kt_BadWord_DoubleName : PySem.W.kitOne K (.ref (cs .badWord)) (.ref (cs .double)) = some false := by rw [hcs]; exact kt_BadWord_DoubleName
  have kt_BadWord_HeldError : PySem.W.kitOne K (.ref (cs .badWord)) (.ref C_HeldError) = some true := by rw [hcs]; exact kt_BadWord_HeldError
  have kt_BadWord_TooMany : PySem.W.kitOne K (.ref (cs .badWord)) (.ref (cs .tooMany)) = some false := by rw [hcs]; exact kt_BadWord_TooMany
  have kt_BadWord_UnknownName : PySem.W.kitOne K (.ref (cs .badWord)) (.ref (cs .unknown)) = some false := by rw [hcs]; exact kt_BadWord_UnknownName
  have kt_TooMany_BadPair : PySem.W.kitOne K (.ref (cs .tooMany)) (.ref (cs .badPair)) = some false := by rw [hcs]; exact kt_TooMany_BadPair
  have kt_TooMany_BadWord : PySem.W.kitOne K (.ref (cs .tooMany)) (.ref (cs .badWord)) = some false := by rw [hcs]; exact kt_TooMany_BadWord
  have kt_TooMany_DoubleName : PySem.W.kitOne K (.ref (cs .tooMany)) (.ref (cs .double)) = some false := by rw [hcs]; exact kt_TooMany_DoubleName
  have kt_TooMany_HeldError : PySem.W.kitOne K (.ref (cs .tooMany)) (.ref C_HeldError) = some true := by rw [hcs]; exact kt_TooMany_HeldError
  have kt_TooMany_TooMany : PySem.W.kitOne K (.ref (cs .tooMany)) (.ref (cs .tooMany)) = some true := by rw [hcs]; exact kt_TooMany_TooMany
  have kt_TooMany_UnknownName : PySem.W.kitOne K (.ref (cs .tooMany)) (.ref (cs .unknown)) = some false := by rw [hcs]; exact kt_TooMany_UnknownName
  have xN_BadWord_DoubleName : PySem.W.exmOne K (.ref (cs .badWord)) (.ref (cs .double)) = some false := by rw [hcs]; exact xN_BadWord_DoubleName
  have xN_BadWord_UnknownName : PySem.W.exmOne K (.ref (cs .badWord)) (.ref (cs .unknown)) = some false := by rw [hcs]; exact xN_BadWord_UnknownName
  have xN_DoubleName_UnknownName : PySem.W.exmOne K (.ref (cs .double)) (.ref (cs .unknown)) = some false := by rw [hcs]; exact xN_DoubleName_UnknownName
  have xN_TooMany_BadWord : PySem.W.exmOne K (.ref (cs .tooMany)) (.ref (cs .badWord)) = some false := by rw [hcs]; exact xN_TooMany_BadWord
  have xN_TooMany_DoubleName : PySem.W.exmOne K (.ref (cs .tooMany)) (.ref (cs .double)) = some false := by rw [hcs]; exact xN_TooMany_DoubleName
  have xN_TooMany_UnknownName : PySem.W.exmOne K (.ref (cs .tooMany)) (.ref (cs .unknown)) = some false := by rw [hcs]; exact xN_TooMany_UnknownName
  have g_BadPair : Glo mg "BadPair" (.ref (cs .badPair)) := ⟨_, X_BadPair.gC, rfl⟩
  have g_BadWord : Glo mg "BadWord" (.ref (cs .badWord)) := ⟨_, X_BadWord.gC, rfl⟩
  have g_DoubleName : Glo mg "DoubleName" (.ref (cs .double)) := ⟨_, X_DoubleName.gC, rfl⟩
  have g_TooMany : Glo mg "TooMany" (.ref (cs .tooMany)) := ⟨_, X_TooMany.gC, rfl⟩
  have g_UnknownName : Glo mg "UnknownName" (.ref (cs .unknown)) := ⟨_, X_UnknownName.gC, rfl⟩
  have O_Plan : IsO K C_Plan := ⟨CL_Plan, ca_Plan, e_cg, e_ct, mo_Plan⟩
  have T_Plan : PlanC K mg C_Plan := ⟨CL_Plan, m_Plan, no_places_Plan, no_begin_Plan, no_taken_Plan, no_given_Plan, no_steps_Plan⟩
  have P1 : Def P w K mg base CX0 1 "is_word" _ spIsWord := ok_is_word B g_LETTERS g_DIGITS g_MOST_SIGNS F_is_word
  have P2 : Def P w K mg base (L2.CX P w) 2 "check_word" _ (spA (preCheckWord (ecs cs))) := checkWordG (ok_check_word X_BadWord P1 F_check_word)
  have P3 : Def P w K mg base (L2.CX P w) 1 "check_number" _ (spA (preCheckNumber (ecs cs))) := checkNumberG (ok_check_number X_BadNumber F_check_number)
  have P4 : Def P w K mg base (L2.CX P w) 1 "check_names" _ (spA (preCheckNames (ecs cs))) := checkNamesG (ok_check_names B X_UnknownName X_DoubleName F_check_names)
  have P5 : Def P w K mg base (L2.CX P w) 2 "in_order" _ (spA (preInOrder (ecs cs))) := ok_in_orderG B P4 F_in_order
  have P6 : DefM P w K mg base (L2.CX P w) 3 C_Plan "put_step" _ (spC (prePut (ecs cs) C_Plan)) := ok_put_stepG B T_Plan X_DoubleName X_EmptyStep P2 P5 FM_Plan_put_step
  have DI_Plan := planW (cs := cs) (ok_plan_initG (cs := ecs cs) B T_Plan g_MOST_PLACES g_MOST_STEPS g_MOST_BEGIN X_TooMany X_DoubleName (P2.mono (by decide)) (P3.mono (by decide)) P6 FI_Plan)
  have D__law_box := ok__law_box (P := P) (w := w) (base := base) (k := 0) B F__law_box
  have D__law_draw := ok__law_draw (P := P) (w := w) (base := base) (k := 0) B F__law_draw
  have D__law_word := ok__law_word (P := P) (w := w) (base := base) (cs := cs) (k := 1) B (D__law_draw.mono (by decide)) F__law_word
  have D__law_fresh := ok__law_fresh (P := P) (w := w) (base := base) (cs := cs) (k := 2) B (D__law_word.mono (by decide)) F__law_fresh
  have D__law_words := ok__law_words (P := P) (w := w) (base := base) (cs := cs) (k := 3) B (D__law_fresh.mono (by decide)) F__law_words
  have D__law_pick := ok__law_pick (P := P) (w := w) (base := base) (cs := cs) (k := 1) B (D__law_draw.mono (by decide)) F__law_pick
  have D__law_any := ok__law_any (P := P) (w := w) (base := base) (cs := cs) (k := 4) B (D__law_words.mono (by decide)) (D__law_draw.mono (by decide)) (D__law_pick.mono (by decide)) F__law_any
  have D__law_stretched := ok__law_stretched (P := P) (w := w) (base := base) (cs := cs) (k := 0) B  F__law_stretched
  have D__law_twinned := ok__law_twinned (P := P) (w := w) (base := base) (cs := cs) (k := 0) B  F__law_twinned
  have D__law_echoed := ok__law_echoed (P := P) (w := w) (base := base) (cs := cs) (k := 0) B  F__law_echoed
  have D__law_detoured := ok__law_detoured (P := P) (w := w) (base := base) (cs := cs) (k := 0) B  F__law_detoured
  have D__law_alone := ok__law_alone (P := P) (w := w) (base := base) (cs := cs) (k := 0) B  F__law_alone
  have D__law_ring := ok__law_ring (P := P) (w := w) (base := base) (cs := cs) (k := 4) B (D__law_draw.mono (by decide)) (D__law_words.mono (by decide)) F__law_ring
  have D__law_grown := ok__law_grown (P := P) (w := w) (base := base) (cs := cs) (k := 5) B (D__law_ring.mono (by decide)) (D__law_draw.mono (by decide)) (D__law_fresh.mono (by decide)) (D__law_stretched.mono (by decide)) (D__law_twinned.mono (by decide)) (D__law_alone.mono (by decide)) (D__law_echoed.mono (by decide)) (D__law_detoured.mono (by decide)) F__law_grown
  have DM_Plan_place_rows := ok_Plan_place_rows (P := P) (w := w) (base := base) (cs := cs) (k := 0) B T_Plan FM_Plan_place_rows
  have DM_Plan_step_rows := ok_Plan_step_rows (P := P) (w := w) (base := base) (cs := cs) (k := 0) B T_Plan FM_Plan_step_rows
  have DM_Plan___eq__ := ok_Plan___eq__ (P := P) (w := w) (base := base) (cs := cs) (k := 0) B T_Plan O_Plan kt_Plan_Plan FM_Plan___eq__
  have DM_Plan___getitem__ := ok_Plan___getitem__ (P := P) (w := w) (base := base) (cs := cs) (k := 0) B T_Plan X_UnknownName FM_Plan___getitem__
  have D_check_place := ok_check_place (P := P) (w := w) (base := base) (cs := cs) (k := 0) B T_Plan X_UnknownName F_check_place
  have D_with_place := ok_with_place (P := P) (w := w) (base := base) (cs := cs) (k := 0) B  F_with_place
  have D_stretch := ok_stretch (P := P) (w := w) (base := base) (cs := cs) (k := 4) B T_Plan (D_check_place.mono (by decide)) (DM_Plan_step_rows.mono (by decide)) (DM_Plan_place_rows.mono (by decide)) m_Plan (DI_Plan.mono (by decide)) F_stretch
  have D_twin := ok_twin (P := P) (w := w) (base := base) (cs := cs) (k := 4) B T_Plan (D_check_place.mono (by decide)) (D_with_place.mono (by decide)) (DM_Plan_step_rows.mono (by decide)) (DM_Plan_place_rows.mono (by decide)) GF_Plan m_Plan (DI_Plan.mono (by decide)) (DM_Plan___getitem__.mono (by decide)) F_twin
  have D__law_copy := ok__law_copy (P := P) (w := w) (base := base) (cs := cs) (k := 0) B  F__law_copy
  have D__law_plan := ok__law_plan (P := P) (w := w) (base := base) (cs := cs) (k := 4) B (D__law_copy.mono (by decide)) m_Plan (DI_Plan.mono (by decide)) F__law_plan
  have D__law_ordered := ok__law_ordered (P := P) (w := w) (base := base) (cs := cs) (k := 0) B  F__law_ordered
  have D__law_is_plan := ok__law_is_plan (P := P) (w := w) (base := base) (cs := cs) (k := 1) B T_Plan (D__law_ordered.mono (by decide)) (DM_Plan_place_rows.mono (by decide)) (DM_Plan_step_rows.mono (by decide)) F__law_is_plan
  have D__law_good := ok__law_good (P := P) (w := w) (base := base) (cs := cs) (k := 0) B  F__law_good
  have D__law_words_due := ok__law_words_due (P := P) (w := w) (base := base) (cs := cs) (k := 1) B (D__law_good.mono (by decide)) F__law_words_due
  have D__law_built_due := ok__law_built_due (P := P) (w := w) (base := base) (cs := cs) (k := 2) B (D__law_words_due.mono (by decide)) F__law_built_due
  have D__law_new := ok__law_new (P := P) (w := w) (base := base) (cs := cs) (k := 3) B (D__law_draw.mono (by decide)) (D__law_fresh.mono (by decide)) F__law_new
  have D__law_old := ok__law_old (P := P) (w := w) (base := base) (cs := cs) (k := 3) B (D__law_draw.mono (by decide)) (D__law_fresh.mono (by decide)) F__law_old
  have D__law_one_classU := ok__law_one_classU (P := P) (w := w) (base := base) (cs := cs) (k := 0) B g_UnknownName g_DoubleName g_BadPair g_BadWord g_TooMany g_HeldError X_UnknownName kt_UnknownName_BadPair kt_UnknownName_BadWord kt_UnknownName_DoubleName kt_UnknownName_HeldError kt_UnknownName_TooMany kt_UnknownName_UnknownName F__law_one_class
  have D__law_one_classD := ok__law_one_classD (P := P) (w := w) (base := base) (cs := cs) (k := 0) B g_UnknownName g_DoubleName g_BadPair g_BadWord g_TooMany g_HeldError X_DoubleName kt_DoubleName_BadPair kt_DoubleName_BadWord kt_DoubleName_DoubleName kt_DoubleName_HeldError kt_DoubleName_TooMany kt_DoubleName_UnknownName F__law_one_class
  have D__law_one_classW := ok__law_one_classW (P := P) (w := w) (base := base) (cs := cs) (k := 0) B g_UnknownName g_DoubleName g_BadPair g_BadWord g_TooMany g_HeldError X_BadWord kt_BadWord_BadPair kt_BadWord_BadWord kt_BadWord_DoubleName kt_BadWord_HeldError kt_BadWord_TooMany kt_BadWord_UnknownName F__law_one_class
  have D__law_one_classT := ok__law_one_classT (P := P) (w := w) (base := base) (cs := cs) (k := 0) B g_UnknownName g_DoubleName g_BadPair g_BadWord g_TooMany g_HeldError X_TooMany kt_TooMany_BadPair kt_TooMany_BadWord kt_TooMany_DoubleName kt_TooMany_HeldError kt_TooMany_TooMany kt_TooMany_UnknownName F__law_one_class
  have D__law_told := ok__law_told (P := P) (w := w) (base := base) (cs := cs) (k := 6) B (D_twin.mono (by decide)) (D_stretch.mono (by decide)) (D__law_one_classU.mono (by decide)) (D__law_one_classD.mono (by decide)) (D__law_one_classW.mono (by decide)) (D__law_one_classT.mono (by decide)) X_UnknownName X_DoubleName X_BadWord X_TooMany xN_BadWord_DoubleName xN_BadWord_UnknownName xN_DoubleName_UnknownName xN_TooMany_BadWord xN_TooMany_DoubleName xN_TooMany_UnknownName F__law_told
  have D__law_asked := ok__law_asked (P := P) (w := w) (base := base) (cs := cs) (k := 6) B (D__law_old.mono (by decide)) (D__law_new.mono (by decide)) (D__law_told.mono (by decide)) (D__law_is_plan.mono (by decide)) (D__law_stretched.mono (by decide)) (D__law_twinned.mono (by decide)) (D__law_built_due.mono (by decide)) (D__law_plan.mono (by decide)) CC_Plan NC_Plan (DM_Plan___eq__.mono (by decide)) F__law_asked
  exact ok_law (P := P) (w := w) (base := base) (cs := cs) (k := 7) B (D__law_draw.mono (by decide)) (D__law_any.mono (by decide)) (D__law_grown.mono (by decide)) (D__law_plan.mono (by decide)) (D__law_asked.mono (by decide)) (D__law_box.mono (by decide)) (fun_mk l_law c_law k_law) law_pure
theorem walk {l : PySem.W.OpenLaw} {q : Program} {loose : List Str} {XP : (Str → Option Value) → Heap → Prop} {YP : World → Heap → Prop} {d : DefRec} {K : Params → PySem.W.Frag} (hn : l.most = some 63) (hdf : d.params.defaults = [])
    (hY : ∀ (w : World) (h : Heap), YP w h → (K w.params).In h)
    (F : ∀ (w : World) (mg : Str → Option Value) (fa : Addr) (h : Heap), (K w.params).In h → h.Ns mainGlobals mg → mg d.name = some (.ref fa) →
      ∃ fd : FuncData, (∀ (s : Shared) (u : Value), BindsTo s fd ⟨[u], []⟩ [("_law_script", u)]) ∧ ∀ base : Heap, (K w.params).In base → base.Ns mainGlobals mg → FnOk l.prog w (K w.params) mg base CX0 9 fa fd ["_law_script"] (spLaw (K w.params))) :
    PySem.W.WalkO q loose XP YP l.row.toRowW d [] (fun f vs => PySem.call f vs) :=
  L2.walk_of (n := 63) (k := 9) (x := "_law_script") (CX := fun _ => CX0) (sp := fun w => spLaw (K w.params)) hn (by decide) hdf ⟨rfl, by decide, by decide⟩ hY F (fun _ _ a ns hl _ hS => ⟨a, ns, rfl, hS, hl, fun _ => rfl⟩) fun _ _ _ _ _ z => z
end Held
open PySem PySem.W PyProof.Rows in
set_option maxRecDepth 100000 in
set_option maxHeartbeats 0 in
theorem PySem.Challenge.cw_heldsteps_k68_stretch_and_twin_build_holds : PySem.Challenge.rw_heldsteps_k68_stretch_and_twin_build.Holds := by
  w_on; o_law; k_head; (case hw => w_witness2)
  k_fill
  refine Held.walk (l := PySem.Challenge.rw_heldsteps_k68_stretch_and_twin_build) rfl rfl (fun w h Y => PySem.W.kIn_of Y) ?F
  case F =>
    intro w mg fa h KX G hmg
    refine' Held.all_mk KX G hmg (by decide +kernel) ?z_len ?z_range ?z_abs ?z_sum ?z_sorted ?z_isinstance ?z_zip ?z_enumerate ?z_reversed ?z_int ?z_str ?z_list ?z_tuple ?z_bool ?z_all ?z_any ?z_ValueError ?z_super ?a_LETTERS ?a_DIGITS ?a_MOST_SIGNS ?a_MOST_PLACES ?a_MOST_STEPS ?a_MOST_BEGIN ?a__law_box ?l__law_box ?c__law_box ?k__law_box ?a__law_draw ?l__law_draw ?c__law_draw ?k__law_draw ?a_is_word ?l_is_word ?c_is_word ?k_is_word ?a_check_word ?l_check_word ?c_check_word ?k_check_word ?a_check_number ?l_check_number ?c_check_number ?k_check_number ?a_check_names ?l_check_names ?c_check_names ?k_check_names ?a_in_order ?l_in_order ?c_in_order ?k_in_order ?a__law_word ?l__law_word ?c__law_word ?k__law_word ?a__law_fresh ?l__law_fresh ?c__law_fresh ?k__law_fresh ?a__law_words ?l__law_words ?c__law_words ?k__law_words ?a__law_pick ?l__law_pick ?c__law_pick ?k__law_pick ?a__law_any ?l__law_any ?c__law_any ?k__law_any ?a__law_stretched ?l__law_stretched ?c__law_stretched ?k__law_stretched ?a__law_twinned ?l__law_twinned ?c__law_twinned ?k__law_twinned ?a__law_echoed ?l__law_echoed ?c__law_echoed ?k__law_echoed ?a__law_detoured ?l__law_detoured ?c__law_detoured ?k__law_detoured ?a__law_alone ?l__law_alone ?c__law_alone ?k__law_alone ?a__law_ring ?l__law_ring ?c__law_ring ?k__law_ring ?a__law_grown ?l__law_grown ?c__law_grown ?k__law_grown ?a_check_place ?l_check_place ?c_check_place ?k_check_place ?a_with_place ?l_with_place ?c_with_place ?k_with_place ?a_stretch ?l_stretch ?c_stretch ?k_stretch ?a_twin ?l_twin ?c_twin ?k_twin ?a__law_copy ?l__law_copy ?c__law_copy ?k__law_copy ?a__law_plan ?l__law_plan ?c__law_plan ?k__law_plan ?a__law_ordered ?l__law_ordered ?c__law_ordered ?k__law_ordered ?a__law_is_plan ?l__law_is_plan ?c__law_is_plan ?k__law_is_plan ?a__law_good ?l__law_good ?c__law_good ?k__law_good ?a__law_words_due ?l__law_words_due ?c__law_words_due ?k__law_words_due ?a__law_built_due ?l__law_built_due ?c__law_built_due ?k__law_built_due ?a__law_new ?l__law_new ?c__law_new ?k__law_new ?a__law_old ?l__law_old ?c__law_old ?k__law_old ?a__law_one_class ?l__law_one_class ?c__law_one_class ?k__law_one_class ?a__law_told ?l__law_told ?c__law_told ?k__law_told ?a__law_asked ?l__law_asked ?c__law_asked ?k__law_asked ?a_law ?l_law ?c_law ?k_law ?aC_HeldError ?e_opq ?e_cg ?e_ct ?aC_TooMany ?xL_TooMany ?bm_TooMany ?sa_TooMany ?ga_TooMany ?gg_TooMany ?no_kind_TooMany ?no_limit_TooMany ?iC_TooMany ?tI_TooMany ?kC_TooMany ?ex_TooMany ?ve_TooMany ?ty_TooMany ?hd_TooMany ?sup_TooMany ?mro_TooMany ?su_TooMany ?ca_TooMany ?mo_TooMany ?l_TooMany ?c_TooMany ?lc_TooMany ?v2_TooMany ?fl_TooMany ?cc_TooMany ?aC_BadWord ?xL_BadWord ?bm_BadWord ?sa_BadWord ?ga_BadWord ?gg_BadWord ?no_word_BadWord ?iC_BadWord ?tI_BadWord ?kC_BadWord ?ex_BadWord ?ve_BadWord ?ty_BadWord ?hd_BadWord ?sup_BadWord ?mro_BadWord ?su_BadWord ?ca_BadWord ?mo_BadWord ?l_BadWord ?c_BadWord ?lc_BadWord ?v2_BadWord ?fl_BadWord ?cc_BadWord ?aC_DoubleName ?xL_DoubleName ?bm_DoubleName ?sa_DoubleName ?ga_DoubleName ?gg_DoubleName ?no_name_DoubleName ?iC_DoubleName ?tI_DoubleName ?kC_DoubleName ?ex_DoubleName ?ve_DoubleName ?ty_DoubleName ?hd_DoubleName ?sup_DoubleName ?mro_DoubleName ?su_DoubleName ?ca_DoubleName ?mo_DoubleName ?l_DoubleName ?c_DoubleName ?lc_DoubleName ?v2_DoubleName ?fl_DoubleName ?cc_DoubleName ?aC_BadNumber ?xL_BadNumber ?bm_BadNumber ?sa_BadNumber ?ga_BadNumber ?gg_BadNumber ?no_number_BadNumber ?iC_BadNumber ?tI_BadNumber ?kC_BadNumber ?ex_BadNumber ?ve_BadNumber ?ty_BadNumber ?hd_BadNumber ?sup_BadNumber ?mro_BadNumber ?su_BadNumber ?ca_BadNumber ?mo_BadNumber ?l_BadNumber ?c_BadNumber ?lc_BadNumber ?v2_BadNumber ?fl_BadNumber ?cc_BadNumber ?aC_EmptyStep ?xL_EmptyStep ?bm_EmptyStep ?sa_EmptyStep ?ga_EmptyStep ?gg_EmptyStep ?no_name_EmptyStep ?iC_EmptyStep ?tI_EmptyStep ?kC_EmptyStep ?ex_EmptyStep ?ve_EmptyStep ?ty_EmptyStep ?hd_EmptyStep ?sup_EmptyStep ?mro_EmptyStep ?su_EmptyStep ?ca_EmptyStep ?mo_EmptyStep ?l_EmptyStep ?c_EmptyStep ?lc_EmptyStep ?v2_EmptyStep ?fl_EmptyStep ?cc_EmptyStep ?aC_UnknownName ?xL_UnknownName ?bm_UnknownName ?sa_UnknownName ?ga_UnknownName ?gg_UnknownName ?no_name_UnknownName ?iC_UnknownName ?tI_UnknownName ?kC_UnknownName ?ex_UnknownName ?ve_UnknownName ?ty_UnknownName ?hd_UnknownName ?sup_UnknownName ?mro_UnknownName ?su_UnknownName ?ca_UnknownName ?mo_UnknownName ?l_UnknownName ?c_UnknownName ?lc_UnknownName ?v2_UnknownName ?fl_UnknownName ?cc_UnknownName ?aC_BadPair ?xL_BadPair ?bm_BadPair ?sa_BadPair ?ga_BadPair ?gg_BadPair ?no_name_BadPair ?iC_BadPair ?tI_BadPair ?kC_BadPair ?ex_BadPair ?ve_BadPair ?ty_BadPair ?hd_BadPair ?sup_BadPair ?mro_BadPair ?su_BadPair ?ca_BadPair ?mo_BadPair ?l_BadPair ?c_BadPair ?lc_BadPair ?v2_BadPair ?fl_BadPair ?cc_BadPair ?aC_Plan ?pg_Plan ?hd_Plan ?po_Plan ?sa_Plan ?no_places_Plan ?no_begin_Plan ?no_taken_Plan ?no_given_Plan ?no_steps_Plan ?ca_Plan ?mo_Plan ?mk_Plan ?kC_Plan ?a_Plan___init__ ?i_Plan___init__ ?l_Plan___init__ ?c_Plan___init__ ?k_Plan___init__ ?a_Plan_put_step ?i_Plan_put_step ?l_Plan_put_step ?c_Plan_put_step ?k_Plan_put_step ?a_Plan_place_rows ?i_Plan_place_rows ?l_Plan_place_rows ?c_Plan_place_rows ?k_Plan_place_rows ?a_Plan_step_rows ?i_Plan_step_rows ?l_Plan_step_rows ?c_Plan_step_rows ?k_Plan_step_rows ?a_Plan___eq__ ?i_Plan___eq__ ?l_Plan___eq__ ?c_Plan___eq__ ?k_Plan___eq__ ?a_Plan___getitem__ ?i_Plan___getitem__ ?l_Plan___getitem__ ?c_Plan___getitem__ ?k_Plan___getitem__ ?si_Plan ?is_Plan ?ne_Plan ?kt_Plan_Plan ?kt_UnknownName_BadPair ?kt_UnknownName_BadWord ?kt_UnknownName_DoubleName ?kt_UnknownName_HeldError ?kt_UnknownName_TooMany ?kt_UnknownName_UnknownName ?kt_DoubleName_BadPair ?kt_DoubleName_BadWord ?kt_DoubleName_DoubleName ?kt_DoubleName_HeldError ?kt_DoubleName_TooMany ?kt_DoubleName_UnknownName ?kt_BadWord_BadPair ?kt_BadWord_BadWord ?kt_BadWord_DoubleName ?kt_BadWord_HeldError ?kt_BadWord_TooMany ?kt_BadWord_UnknownName ?kt_TooMany_BadPair ?kt_TooMany_BadWord ?kt_TooMany_DoubleName ?kt_TooMany_HeldError ?kt_TooMany_TooMany ?kt_TooMany_UnknownName ?xN_BadWord_DoubleName ?xN_BadWord_UnknownName ?xN_DoubleName_UnknownName ?xN_TooMany_BadWord ?xN_TooMany_DoubleName ?xN_TooMany_UnknownName
    (case z_len => k_is)
    (case z_range => k_is)
    (case z_abs => k_is)
    (case z_sum => k_is)
    (case z_sorted => k_is)
    (case z_isinstance => k_is)
    (case z_zip => k_is)
    (case z_enumerate => k_is)
    (case z_reversed => k_is)
    (case z_int => k_is)
    (case z_str => k_is)
    (case z_list => k_is)
    (case z_tuple => k_is)
    (case z_bool => k_is)
    (case z_all => k_is)
    (case z_any => k_is)
    (case z_ValueError => k_is)
    (case z_super => k_is)
    (case a_LETTERS => k_is)
    (case a_DIGITS => k_is)
    (case a_MOST_SIGNS => k_is)
    (case a_MOST_PLACES => k_is)
    (case a_MOST_STEPS => k_is)
    (case a_MOST_BEGIN => k_is)
    (case a__law_box => k_is)
    (case l__law_box => k_is)
    (case c__law_box => k_is)
    (case k__law_box => k_is)
    (case a__law_draw => k_is)
    (case l__law_draw => k_is)
    (case c__law_draw => k_is)
    (case k__law_draw => k_is)
    (case a_is_word => k_is)
    (case l_is_word => k_is)
    (case c_is_word => k_is)
    (case k_is_word => k_is)
    (case a_check_word => k_is)
    (case l_check_word => k_is)
    (case c_check_word => k_is)
    (case k_check_word => k_is)
    (case a_check_number => k_is)
    (case l_check_number => k_is)
    (case c_check_number => k_is)
    (case k_check_number => k_is)
    (case a_check_names => k_is)
    (case l_check_names => k_is)
    (case c_check_names => k_is)
    (case k_check_names => k_is)
    (case a_in_order => k_is)
    (case l_in_order => k_is)
    (case c_in_order => k_is)
    (case k_in_order => k_is)
    (case a__law_word => k_is)
    (case l__law_word => k_is)
    (case c__law_word => k_is)
    (case k__law_word => k_is)
    (case a__law_fresh => k_is)
    (case l__law_fresh => k_is)
    (case c__law_fresh => k_is)
    (case k__law_fresh => k_is)
    (case a__law_words => k_is)
    (case l__law_words => k_is)
    (case c__law_words => k_is)
    (case k__law_words => k_is)
    (case a__law_pick => k_is)
    (case l__law_pick => k_is)
    (case c__law_pick => k_is)
    (case k__law_pick => k_is)
    (case a__law_any => k_is)
    (case l__law_any => k_is)
    (case c__law_any => k_is)
    (case k__law_any => k_is)
    (case a__law_stretched => k_is)
    (case l__law_stretched => k_is)
    (case c__law_stretched => k_is)
    (case k__law_stretched => k_is)
    (case a__law_twinned => k_is)
    (case l__law_twinned => k_is)
    (case c__law_twinned => k_is)
    (case k__law_twinned => k_is)
    (case a__law_echoed => k_is)
    (case l__law_echoed => k_is)
    (case c__law_echoed => k_is)
    (case k__law_echoed => k_is)
    (case a__law_detoured => k_is)
    (case l__law_detoured => k_is)
    (case c__law_detoured => k_is)
    (case k__law_detoured => k_is)
    (case a__law_alone => k_is)
    (case l__law_alone => k_is)
    (case c__law_alone => k_is)
    (case k__law_alone => k_is)
    (case a__law_ring => k_is)
    (case l__law_ring => k_is)
    (case c__law_ring => k_is)
    (case k__law_ring => k_is)
    (case a__law_grown => k_is)
    (case l__law_grown => k_is)
    (case c__law_grown => k_is)
    (case k__law_grown => k_is)
    (case a_check_place => k_is)
    (case l_check_place => k_is)
    (case c_check_place => k_is)
    (case k_check_place => k_is)
    (case a_with_place => k_is)
    (case l_with_place => k_is)
    (case c_with_place => k_is)
    (case k_with_place => k_is)
    (case a_stretch => k_is)
    (case l_stretch => k_is)
    (case c_stretch => k_is)
    (case k_stretch => k_is)
    (case a_twin => k_is)
    (case l_twin => k_is)
    (case c_twin => k_is)
    (case k_twin => k_is)
    (case a__law_copy => k_is)
    (case l__law_copy => k_is)
    (case c__law_copy => k_is)
    (case k__law_copy => k_is)
    (case a__law_plan => k_is)
    (case l__law_plan => k_is)
    (case c__law_plan => k_is)
    (case k__law_plan => k_is)
    (case a__law_ordered => k_is)
    (case l__law_ordered => k_is)
    (case c__law_ordered => k_is)
    (case k__law_ordered => k_is)
    (case a__law_is_plan => k_is)
    (case l__law_is_plan => k_is)
    (case c__law_is_plan => k_is)
    (case k__law_is_plan => k_is)
    (case a__law_good => k_is)
    (case l__law_good => k_is)
    (case c__law_good => k_is)
    (case k__law_good => k_is)
    (case a__law_words_due => k_is)
    (case l__law_words_due => k_is)
    (case c__law_words_due => k_is)
    (case k__law_words_due => k_is)
    (case a__law_built_due => k_is)
    (case l__law_built_due => k_is)
    (case c__law_built_due => k_is)
    (case k__law_built_due => k_is)
    (case a__law_new => k_is)
    (case l__law_new => k_is)
    (case c__law_new => k_is)
    (case k__law_new => k_is)
    (case a__law_old => k_is)
    (case l__law_old => k_is)
    (case c__law_old => k_is)
    (case k__law_old => k_is)
    (case a__law_one_class => k_is)
    (case l__law_one_class => k_is)
    (case c__law_one_class => k_is)
    (case k__law_one_class => k_is)
    (case a__law_told => k_is)
    (case l__law_told => k_is)
    (case c__law_told => k_is)
    (case k__law_told => k_is)
    (case a__law_asked => k_is)
    (case l__law_asked => k_is)
    (case c__law_asked => k_is)
    (case k__law_asked => k_is)
    (case a_law => k_is)
    (case l_law => k_is)
    (case c_law => k_is)
    (case k_law => k_is)
    (case aC_HeldError => k_is)
    (case e_opq => k_is)
    (case e_cg => k_is)
    (case e_ct => k_is)
    (case aC_TooMany => k_is)
    (case xL_TooMany => k_is)
    (case bm_TooMany => rfl)
    (case sa_TooMany => k_is)
    (case ga_TooMany => k_is)
    (case gg_TooMany => k_is)
    (case no_kind_TooMany => k_is)
    (case no_limit_TooMany => k_is)
    (case iC_TooMany => k_is)
    (case tI_TooMany => k_is)
    (case kC_TooMany => k_is)
    (case ex_TooMany => k_is)
    (case ve_TooMany => k_is)
    (case ty_TooMany => k_is)
    (case hd_TooMany => k_is)
    (case sup_TooMany => ks_is)
    (case mro_TooMany => k_is)
    (case su_TooMany => first | rfl | k_is)
    (case ca_TooMany => k_is)
    (case mo_TooMany => k_is)
    (case l_TooMany => k_is)
    (case c_TooMany => k_is)
    (case lc_TooMany => k_is)
    (case v2_TooMany => rfl)
    (case fl_TooMany => first | rfl | decide +kernel)
    (case cc_TooMany => k_is)
    (case aC_BadWord => k_is)
    (case xL_BadWord => k_is)
    (case bm_BadWord => rfl)
    (case sa_BadWord => k_is)
    (case ga_BadWord => k_is)
    (case gg_BadWord => k_is)
    (case no_word_BadWord => k_is)
    (case iC_BadWord => k_is)
    (case tI_BadWord => k_is)
    (case kC_BadWord => k_is)
    (case ex_BadWord => k_is)
    (case ve_BadWord => k_is)
    (case ty_BadWord => k_is)
    (case hd_BadWord => k_is)
    (case sup_BadWord => ks_is)
    (case mro_BadWord => k_is)
    (case su_BadWord => first | rfl | k_is)
    (case ca_BadWord => k_is)
    (case mo_BadWord => k_is)
    (case l_BadWord => k_is)
    (case c_BadWord => k_is)
    (case lc_BadWord => k_is)
    (case v2_BadWord => rfl)
    (case fl_BadWord => first | rfl | decide +kernel)
    (case cc_BadWord => k_is)
    (case aC_DoubleName => k_is)
    (case xL_DoubleName => k_is)
    (case bm_DoubleName => rfl)
    (case sa_DoubleName => k_is)
    (case ga_DoubleName => k_is)
    (case gg_DoubleName => k_is)
    (case no_name_DoubleName => k_is)
    (case iC_DoubleName => k_is)
    (case tI_DoubleName => k_is)
    (case kC_DoubleName => k_is)
    (case ex_DoubleName => k_is)
    (case ve_DoubleName => k_is)
    (case ty_DoubleName => k_is)
    (case hd_DoubleName => k_is)
    (case sup_DoubleName => ks_is)
    (case mro_DoubleName => k_is)
    (case su_DoubleName => first | rfl | k_is)
    (case ca_DoubleName => k_is)
    (case mo_DoubleName => k_is)
    (case l_DoubleName => k_is)
    (case c_DoubleName => k_is)
    (case lc_DoubleName => k_is)
    (case v2_DoubleName => rfl)
    (case fl_DoubleName => first | rfl | decide +kernel)
    (case cc_DoubleName => k_is)
    (case aC_BadNumber => k_is)
    (case xL_BadNumber => k_is)
    (case bm_BadNumber => rfl)
    (case sa_BadNumber => k_is)
    (case ga_BadNumber => k_is)
    (case gg_BadNumber => k_is)
    (case no_number_BadNumber => k_is)
    (case iC_BadNumber => k_is)
    (case tI_BadNumber => k_is)
    (case kC_BadNumber => k_is)
    (case ex_BadNumber => k_is)
    (case ve_BadNumber => k_is)
    (case ty_BadNumber => k_is)
    (case hd_BadNumber => k_is)
    (case sup_BadNumber => ks_is)
    (case mro_BadNumber => k_is)
    (case su_BadNumber => first | rfl | k_is)
    (case ca_BadNumber => k_is)
    (case mo_BadNumber => k_is)
    (case l_BadNumber => k_is)
    (case c_BadNumber => k_is)
    (case lc_BadNumber => k_is)
    (case v2_BadNumber => rfl)
    (case fl_BadNumber => first | rfl | decide +kernel)
    (case cc_BadNumber => k_is)
    (case aC_EmptyStep => k_is)
    (case xL_EmptyStep => k_is)
    (case bm_EmptyStep => rfl)
    (case sa_EmptyStep => k_is)
    (case ga_EmptyStep => k_is)
    (case gg_EmptyStep => k_is)
    (case no_name_EmptyStep => k_is)
    (case iC_EmptyStep => k_is)
    (case tI_EmptyStep => k_is)
    (case kC_EmptyStep => k_is)
    (case ex_EmptyStep => k_is)
    (case ve_EmptyStep => k_is)
    (case ty_EmptyStep => k_is)
    (case hd_EmptyStep => k_is)
    (case sup_EmptyStep => ks_is)
    (case mro_EmptyStep => k_is)
    (case su_EmptyStep => first | rfl | k_is)
    (case ca_EmptyStep => k_is)
    (case mo_EmptyStep => k_is)
    (case l_EmptyStep => k_is)
    (case c_EmptyStep => k_is)
    (case lc_EmptyStep => k_is)
    (case v2_EmptyStep => rfl)
    (case fl_EmptyStep => first | rfl | decide +kernel)
    (case cc_EmptyStep => k_is)
    (case aC_UnknownName => k_is)
    (case xL_UnknownName => k_is)
    (case bm_UnknownName => rfl)
    (case sa_UnknownName => k_is)
    (case ga_UnknownName => k_is)
    (case gg_UnknownName => k_is)
    (case no_name_UnknownName => k_is)
    (case iC_UnknownName => k_is)
    (case tI_UnknownName => k_is)
    (case kC_UnknownName => k_is)
    (case ex_UnknownName => k_is)
    (case ve_UnknownName => k_is)
    (case ty_UnknownName => k_is)
    (case hd_UnknownName => k_is)
    (case sup_UnknownName => ks_is)
    (case mro_UnknownName => k_is)
    (case su_UnknownName => first | rfl | k_is)
    (case ca_UnknownName => k_is)
    (case mo_UnknownName => k_is)
    (case l_UnknownName => k_is)
    (case c_UnknownName => k_is)
    (case lc_UnknownName => k_is)
    (case v2_UnknownName => rfl)
    (case fl_UnknownName => first | rfl | decide +kernel)
    (case cc_UnknownName => k_is)
    (case aC_BadPair => k_is)
    (case xL_BadPair => k_is)
    (case bm_BadPair => rfl)
    (case sa_BadPair => k_is)
    (case ga_BadPair => k_is)
    (case gg_BadPair => k_is)
    (case no_name_BadPair => k_is)
    (case iC_BadPair => k_is)
    (case tI_BadPair => k_is)
    (case kC_BadPair => k_is)
    (case ex_BadPair => k_is)
    (case ve_BadPair => k_is)
    (case ty_BadPair => k_is)
    (case hd_BadPair => k_is)
    (case sup_BadPair => ks_is)
    (case mro_BadPair => k_is)
    (case su_BadPair => first | rfl | k_is)
    (case ca_BadPair => k_is)
    (case mo_BadPair => k_is)
    (case l_BadPair => k_is)
    (case c_BadPair => k_is)
    (case lc_BadPair => k_is)
    (case v2_BadPair => rfl)
    (case fl_BadPair => first | rfl | decide +kernel)
    (case cc_BadPair => k_is)
    (case aC_Plan => k_is)
    (case pg_Plan => k_is)
    (case hd_Plan => k_is)
    (case po_Plan => k_is)
    (case sa_Plan => k_is)
    (case no_places_Plan => k_is)
    (case no_begin_Plan => k_is)
    (case no_taken_Plan => k_is)
    (case no_given_Plan => k_is)
    (case no_steps_Plan => k_is)
    (case ca_Plan => k_is)
    (case mo_Plan => k_is)
    (case mk_Plan => k_is)
    (case kC_Plan => k_is)
    (case a_Plan___init__ => k_is)
    (case i_Plan___init__ => k_is)
    (case l_Plan___init__ => k_is)
    (case c_Plan___init__ => k_is)
    (case k_Plan___init__ => k_is)
    (case a_Plan_put_step => k_is)
    (case i_Plan_put_step => k_is)
    (case l_Plan_put_step => k_is)
    (case c_Plan_put_step => k_is)
    (case k_Plan_put_step => k_is)
    (case a_Plan_place_rows => k_is)
    (case i_Plan_place_rows => k_is)
    (case l_Plan_place_rows => k_is)
    (case c_Plan_place_rows => k_is)
    (case k_Plan_place_rows => k_is)
    (case a_Plan_step_rows => k_is)
    (case i_Plan_step_rows => k_is)
    (case l_Plan_step_rows => k_is)
    (case c_Plan_step_rows => k_is)
    (case k_Plan_step_rows => k_is)
    (case a_Plan___eq__ => k_is)
    (case i_Plan___eq__ => k_is)
    (case l_Plan___eq__ => k_is)
    (case c_Plan___eq__ => k_is)
    (case k_Plan___eq__ => k_is)
    (case a_Plan___getitem__ => k_is)
    (case i_Plan___getitem__ => k_is)
    (case l_Plan___getitem__ => k_is)
    (case c_Plan___getitem__ => k_is)
    (case k_Plan___getitem__ => k_is)
    (case si_Plan => k_is)
    (case is_Plan => k_is)
    (case ne_Plan => k_is)
    (case kt_Plan_Plan => kit_is)
    (case kt_UnknownName_BadPair => kit_is)
    (case kt_UnknownName_BadWord => kit_is)
    (case kt_UnknownName_DoubleName => kit_is)
    (case kt_UnknownName_HeldError => kit_is)
    (case kt_UnknownName_TooMany => kit_is)
    (case kt_UnknownName_UnknownName => kit_is)
    (case kt_DoubleName_BadPair => kit_is)
    (case kt_DoubleName_BadWord => kit_is)
    (case kt_DoubleName_DoubleName => kit_is)
    (case kt_DoubleName_HeldError => kit_is)
    (case kt_DoubleName_TooMany => kit_is)
    (case kt_DoubleName_UnknownName => kit_is)
    (case kt_BadWord_BadPair => kit_is)
    (case kt_BadWord_BadWord => kit_is)
    (case kt_BadWord_DoubleName => kit_is)
    (case kt_BadWord_HeldError => kit_is)
    (case kt_BadWord_TooMany => kit_is)
    (case kt_BadWord_UnknownName => kit_is)
    (case kt_TooMany_BadPair => kit_is)
    (case kt_TooMany_BadWord => kit_is)
    (case kt_TooMany_DoubleName => kit_is)
    (case kt_TooMany_HeldError => kit_is)
    (case kt_TooMany_TooMany => kit_is)
    (case kt_TooMany_UnknownName => kit_is)
    (case xN_BadWord_DoubleName => first | rfl | decide +kernel | k_is)
    (case xN_BadWord_UnknownName => first | rfl | decide +kernel | k_is)
    (case xN_DoubleName_UnknownName => first | rfl | decide +kernel | k_is)
    (case xN_TooMany_BadWord => first | rfl | decide +kernel | k_is)
    (case xN_TooMany_DoubleName => first | rfl | decide +kernel | k_is)
    (case xN_TooMany_UnknownName => first | rfl | decide +kernel | k_is)
#print axioms PySem.Challenge.cw_heldsteps_k68_stretch_and_twin_build_holds
