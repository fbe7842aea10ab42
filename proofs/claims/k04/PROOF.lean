import PyProof.Rows.All
import Wide.All
import OpenK.AllK
import Wide.FinOn
import PyProof.EqAt
import PyProof.EqKinds
import PyProof.TupleCall
import KE.KExcSuper
import KE.KExcIs
import HandS.ForMost
import HandS.ForExc
import HandS.ExcInit
import HandS.ExcField
import HandS.ExcIs
import HandS.TryMany
import HandS.Walk
import HandS.Wide
import HandS.EndBits
import HandS.Flow
import HandS.Codes
import HandS.IsInst
import HandS.More
import HandS.Conv
import PySem.Challenge.RW_heldsteps_k04_refusals_of_a_plan
set_option Elab.async false
set_option linter.all false
set_option maxRecDepth 100000
set_option maxHeartbeats 4000000
/-! An error class of the package: a class over a class over ValueError, whose __init__ says super().__init__(text) and then stores its arguments. -/
namespace PySem
namespace HErr
open PySem.W PySem.Calls PyProof.Rows PySem.HandSPX
abbrev FP := Str × Pos × Pos × Pos × Pos
def stF (q : FP) : Stmt := .Assign [.Attribute (.Name "self" q.2.1) q.1 q.2.2.1] (.Name q.1 q.2.2.2.1) q.2.2.2.2
def stS (msg : Expr) (p1 p2 p3 p4 p5 : Pos) : Stmt := .Expr (.Call (.Attribute (.Call (.Name "super" p1) [] [] p2) "__init__" p3) [msg] [] p4) p5
section
variable {prog : Program} {w : World} {A : Around} {E : Value → Shared → Prop} {s : Shared} {K : Frag} {C : Addr}
/-- what is known of the class for its stores -/
structure ClsK (K : Frag) (C : Addr) (fs : List Str) : Prop where
  cls : ∃ nm q N bs bm sn sub ab col dd k0 k1 k2 k3 k5, K.lookup C = some (excClassObj nm q C N bs bm true sn sub ab col dd k0 k1 k2 k3 k5 "ValueError.__new__") ∧ refsVE bm = true
  sa : findIn K (.ref C) "__setattr__" = some (some (.builtin "object.__setattr__"))
  noN : ∀ f ∈ fs, findIn K (.ref C) f = some none
theorem ClsK.data {fs : List Str} (T : ClsK K C fs) : ∃ cd, clsIn K C = some cd ∧ refsVE cd.mro = true ∧ cd.hasDict = true := by
  obtain ⟨nm, q, N, bs, bm, sn, sub, ab, col, dd, k0, k1, k2, k3, k5, hC, hbm⟩ := T.cls
  exact ⟨{ name := nm, bases := bs, mro := .ref C :: bm, ns := N, qualname := q, hasDict := true, slotNames := sn, subclasses := sub, abstract := ab, collection := col, hasDel := false }, by unfold clsIn; rw [hC] <;> rfl, hbm, rfl⟩
theorem ld {M : Model} {env : Env} {m : Str → Option Value} {x : Str} {pos : Pos} {v : Value} {Q : Value → Shared → Prop} (hn : s.heap.Ns env.locals m) (hv : m x = some v) (h : Q v s)
    (hk : env.scope.kind = .function) (hl : env.kindOf x = some .local) (hd : (x == ("__debug__" : Str)) = false) :
    wpAny M A (eval (.Name x pos) env) Q E s := wpAny_Name (wpAny_loadName_local hk hl hn hv h) hd
theorem swaps_attr (env : Env) (q : FP) : swapsWith (.Name q.1 q.2.2.2.1) (some (.Attribute (.Name "self" q.2.1) q.1 q.2.2.1)) q.2.2.2.2.line env = pure false := rfl
/-- the stores behind the first -/
theorem stores_old {names : List Str} (T : ClsK K C names) {env : Env} (hk : env.scope.kind = .function) (hself : env.kindOf "self" = some .local) {m : Str → Option Value} {x dx t0 : Addr} (hmx : m "self" = some (.ref x)) :
    ∀ (fs : List FP) (us : List Value) (vs : List L2.V) (hv : L2.Vals vs us) (hfn : ∀ q ∈ fs, q.1 ∈ names ∧ env.kindOf q.1 = some .local ∧ (q.1 == ("__debug__" : Str)) = false) (hm : Paired (fun (q : FP) u => m q.1 = some u) fs us) (fV : List (Str × L2.V)) (mA : Str → Option Value) (s : Shared) (Q : Flow → Shared → Prop),
      K.In s.heap → s.heap.Ns env.locals m → env.locals ≠ dx → K.lookup dx = none →
      s.heap.get? x = some { cls := .ref C, dict := some dx, data := .fields #[.ref t0, .none, .none, .none, .bool false, .none] } → s.heap.Ns1 dx mA → (∀ f, L2.RelO (fV.lookup f) (mA f)) → fV.length + fs.length ≤ 900 →
      (∀ h' tk mB, (∀ b o, b ≠ dx → s.heap.get? b = some o → h'.get? b = some o) → h'.Ns1 dx mB → (∀ f, L2.RelO ((((fs.map (·.1)).zip vs).reverse ++ fV).lookup f) (mB f)) → Q .next { s with heap := h', toks := tk }) →
      wpAny (model prog w) A (execs (fs.map stF) env) Q E s
  | [], us, vs, hv, hfn, hm, fV, mA, s, Q, X, hn, hL, hKd, hx, hns, hr, hl, hq => by
    refine wpAny_execs_nil ?_
    have := hq s.heap s.toks mA (fun _ _ _ e => e) hns (by simpa using hr)
    exact this
  | q :: fs, us, vs, hv, hfn, hm, fV, mA, s, Q, X, hn, hL, hKd, hx, hns, hr, hl, hq => by
    cases hm with
    | cons hu hm' =>
      rename_i u us'
      cases hv with
      | cons ru hv' =>
        rename_i v vs'
        obtain ⟨hmem, hloc, hdb⟩ := hfn q (List.mem_cons_self ..)
        obtain ⟨cd, hcd, hmro, hhd⟩ := T.data
        have hw := L2.within_of hr
        obtain ⟨hp, g, d, tk, os⟩ := s
        obtain ⟨oD, _, _, hoD, _, _⟩ := hns.count hw
        show wpAny _ _ (execs (stF q :: fs.map stF) env) _ _ _
        refine wpAny_execs_cons (plainObj_wpAny_Assign_Attribute ?_ (swaps_attr env q))
        refine ld hn hu (ld hn hmx ?_ hk hself (by decide)) hk hloc hdb
        refine set_plain X (ox := { cls := .ref C, dict := some dx, data := .fields #[.ref t0, .none, .none, .none, .bool false, .none] }) (od := some oD) ⟨hx, rfl, rfl, hoD⟩ T.sa ?_
        refine PySem.OEX.osa_old X hx hns hw (by rw [List.length_map]; omega) hcd hmro hhd (T.noN _ hmem) (fun h' tk' k hn' => ?_)
        have hxd : x ≠ dx := fun z => by
          obtain ⟨o, es, ep, e1, e2, _⟩ := hns
          rw [← z, hx] at e1
          cases e1
          cases e2
        refine stores_old T hk hself hmx fs us' vs' hv' (fun q' hq' => hfn q' (List.mem_cons_of_mem _ hq')) hm' ((q.1, v) :: fV) _ ⟨h', g, d, tk', os⟩ Q
          (fun a o e => k a o (fun z => by rw [z, hKd] at e; cases e) (X a o e)) ?_ hL hKd (k _ _ hxd hx) hn' (L2.relO_put ru hr) (by simp only [List.length_cons] at hl ⊢; omega) (fun h2 tk2 mB k2 hn2 r2 => ?_)
        · obtain ⟨o, es, ep, e1, e2⟩ := hn
          exact ⟨o, es, ep, k _ _ hL e1, e2⟩
        · refine hq h2 tk2 mB (fun b o hb e => k2 b o hb (k b o hb e)) hn2 fun f => ?_
          have := r2 f
          simpa using this
/-- all stores: from an exception without a dict -/
theorem stores_new {names : List Str} (T : ClsK K C names) {env : Env} (hk : env.scope.kind = .function) (hself : env.kindOf "self" = some .local) {m : Str → Option Value} {x t0 : Addr} (hmx : m "self" = some (.ref x))
    (q : FP) (fs : List FP) (us : List Value) (vs : List L2.V) (hv : L2.Vals vs us) (hfn : ∀ q' ∈ q :: fs, q'.1 ∈ names ∧ env.kindOf q'.1 = some .local ∧ (q'.1 == ("__debug__" : Str)) = false) (hm : Paired (fun (q : FP) u => m q.1 = some u) (q :: fs) us) (s : Shared) (Q : Flow → Shared → Prop)
    (X : K.In s.heap) (hn : s.heap.Ns env.locals m) (hLx : env.locals ≠ x) (hKx : K.lookup x = none)
    (hx : s.heap.get? x = some { cls := .ref C, data := .fields #[.ref t0, .none, .none, .none, .bool false, .none] }) (hl : fs.length ≤ 800)
    (hq : ∀ h' tk dx mB, (∀ b o, b ≠ x → s.heap.get? b = some o → h'.get? b = some o) → s.heap.objs.size ≤ dx → dx ≠ x → h'.get? x = some { cls := .ref C, dict := some dx, data := .fields #[.ref t0, .none, .none, .none, .bool false, .none] } →
      h'.Ns1 dx mB → (∀ f, L2.RelO (((((q :: fs).map (·.1)).zip vs).reverse).lookup f) (mB f)) → Q .next { s with heap := h', toks := tk }) :
    wpAny (model prog w) A (execs ((q :: fs).map stF) env) Q E s := by
  cases hm with
  | cons hu hm' =>
    rename_i u us'
    cases hv with
    | cons ru hv' =>
      rename_i v vs'
      obtain ⟨hmem, hloc, hdb⟩ := hfn q (List.mem_cons_self ..)
      obtain ⟨cd, hcd, hmro, hhd⟩ := T.data
      obtain ⟨hp, g, d, tk, os⟩ := s
      show wpAny _ _ (execs (stF q :: fs.map stF) env) _ _ _
      refine wpAny_execs_cons (plainObj_wpAny_Assign_Attribute ?_ (swaps_attr env q))
      refine ld hn hu (ld hn hmx ?_ hk hself (by decide)) hk hloc hdb
      refine set_plain X (ox := { cls := .ref C, dict := none, data := .fields #[.ref t0, .none, .none, .none, .bool false, .none] }) (od := none) ⟨hx, rfl, rfl, trivial⟩ T.sa ?_
      refine exc_osa X hx hcd hmro hhd (T.noN _ hmem) (fun h' tk' dx k dn dne hx' hn' => ?_)
      have hbig : ∀ {b : Addr} {o : Obj}, hp.get? b = some o → b ≠ dx := fun {b o} e => Nat.ne_of_lt (Nat.lt_of_lt_of_le (Heap.lt_size e) dn)
      have hKd : K.lookup dx = none := by
        cases e : K.lookup dx with
        | none => rfl
        | some o => exact absurd rfl (hbig (X _ _ e))
      have hLd : env.locals ≠ dx := by
        obtain ⟨o, es, ep, e1, e2⟩ := hn
        exact hbig e1
      refine stores_old T hk hself hmx fs us' vs' hv' (fun q' hq' => hfn q' (List.mem_cons_of_mem _ hq')) hm' [(q.1, v)] _ ⟨h', g, d, tk', os⟩ Q
        (fun a o e => k a o (fun z => by rw [z, hKx] at e; cases e) (X a o e)) ?_ hLd hKd hx' hn' (L2.relO_put (fs := []) ru fun _ => True.intro) (by simp only [List.length_cons, List.length_nil] at hl ⊢; omega) (fun h2 tk2 mB k2 hn2 r2 => ?_)
      · obtain ⟨o, es, ep, e1, e2⟩ := hn
        exact ⟨o, es, ep, k _ _ hLx e1, e2⟩
      · refine hq h2 tk2 dx mB (fun b o hb e => k2 b o (hbig e) (k b o hb e)) dn dne (k2 _ _ (Ne.symm dne) hx') hn2 fun f => ?_
        have := r2 f
        simpa using this
/-- what the written part says of the class at C and of its __init__, at fI: its name is cn, its fields fs -/
structure ErrTxt (P : Program) (K : Frag) (mg : Str → Option Value) (tm : Bool) (cn : Str) (C fI : Addr) (fs : List Str) : Prop extends ClsK K C fs where
  gC : mg cn = some (.ref C)
  ga : findIn K (.ref C) "__getattribute__" = some (some (.builtin "BaseException.__getattribute__"))
  gg : findIn K (.ref C) "__getattr__" = some none
  iC : findIn K (.ref C) "__init__" = some (some (.ref fI))
  tC : typeIn K (.ref fI) = some (.type "function")
  kC : keepIn K (.ref C) = true
  exC : subIn K (.ref C) (.type "BaseException") = some true
  veC : subIn K (.ref C) (.type "ValueError") = some true
  tyC : typeIn K (.ref C) = some (.type "type")
  hdC : hasDictIn K C = true
  sup : ks_superIn K C C "__init__" = some (some (.builtin "ValueError.__init__"))
  mro : mroIn K C (.ref C) = some true
  sub : subIn K (.ref C) (.ref C) = some true
  ca : findIn K (.ref C) "__class__" = some (some (.builtin "object.__class__"))
  cg : specialIn K (.builtin "object.__class__") "__get__" = some (some (.builtin "getset_descriptor.__get__"))
  ct : takesIn K (.builtin "object.__class__") = some true
  mo : mroIn K C (.type "object") = some true
  opq : nsIn K cStatics "thirdparty.any" = some none
  msup : mg "super" = none
  top : (P.main.scope.names.lookup ("super" : Str)).isSome = false
  fn : ∃ (oc : Value) (od : Option Addr) (qual : Str) (par : Arguments) (sc : Scope) (msg : Expr) (p1 p2 p3 p4 p5 : Pos) (fp : List FP) (dV kV doc pm : Value) (an : Option Addr) (cda cc : Addr) (ct : Value) (osl : Array (Option Value)) (ar : Arg)
      (ccl cl : Value) (cdd cld : Option Addr) (ccs csl : Array (Option Value)) (vs : Array Value) (file : Str) (tf : Tok),
    K.lookup fI = some ⟨oc, od, .func (ksFn "__init__" qual par (stS msg p1 p2 p3 p4 p5 :: fp.map stF) sc dV kV doc pm an (.ref cda) ct cc), osl⟩ ∧ codeIn K (.ref cda) qual = true ∧
    (par.posonlyargs ++ par.args).head? = some ar ∧ ar.arg = "self" ∧ K.lookup cda = some ⟨ccl, cdd, .fields vs, ccs⟩ ∧ vs[2]? = some (.str file tf) ∧ ((P.main.file : Str) == file) = true ∧
    K.lookup cc = some ⟨cl, cld, .cell (some (.ref C)), csl⟩ ∧ fp.map (·.1) = fs ∧ (p3.endLine == p4.line) = true ∧
    (sc.names.lookup ("super" : Str) = some .globalImplicit ∧ sc.names.lookup ("__class__" : Str) = some .free ∧ sc.names.lookup ("self" : Str) = some .local ∧ (∀ f ∈ fs, sc.names.lookup f = some .local) ∧ (∀ f ∈ fs, (f == ("__debug__" : Str)) = false) ∧ (∀ y ∈ sc.names, y.2 ≠ .cell)) ∧
    (sc.kind = .function ∧ sc.isGenerator = false ∧ sc.isCoroutine = false) ∧
    (∀ (s : Shared) (x : Value) (us : List Value), us.length = fs.length → BindsTo s (ksFn "__init__" qual par (stS msg p1 p2 p3 p4 p5 :: fp.map stF) sc dV kV doc pm an (.ref cda) ct cc) ⟨x :: us, []⟩ (("self", x) :: fs.zip us)) ∧
    (∀ (x : Value) (us : List Value), us.length = fs.length → ((("self" : Str), x) :: fs.zip us).reverse.lookup ("self" : Str) = some x ∧ Paired (fun f u => ((("self" : Str), x) :: fs.zip us).reverse.lookup f = some u) fs us) ∧
    ((tm = false ∧ ∃ (z : Str) (i : Nat) (p : Pos), msg = .Constant (.str z) i p) ∨ tm = true ∧ ∃ (z f : Str) (i : Nat) (p p' p'' : Pos), msg = .BinOp (.Constant (.str z) i p) .Add (.Name f p') p'' ∧ z.length ≤ 100 ∧ fs.head? = some f)
/-- what __init__ leaves of a fresh exception at x -/
structure InitEnd (h h' : Heap) (x C dx t1 : Addr) (fs : List Str) (vs : List L2.V) : Prop where
  keep : ∀ b o, b ≠ x → h.get? b = some o → h'.get? b = some o
  obj : h'.get? x = some { cls := .ref C, dict := some dx, data := .fields #[.ref t1, .none, .none, .none, .bool false, .none] }
  dbig : h.objs.size ≤ dx
  dne : dx ≠ x
  ns : ∃ mB, h'.Ns1 dx mB ∧ ∀ f, L2.RelO ((fs.zip vs).reverse.lookup f) (mB f)
/-- the built-in __init__, bound, called -/
theorem call_bw {h : Heap} {g : Array GenState} {d : Drawn} {t : Nat} {os : OsState} {u e t0 : Addr} {rest : List Value} {names : List Str} {Q : Value → Shared → Prop} (T : ClsK K C names) (X : K.In h)
    (he : h.get? e = some (excO C t0)) (hu : h.get? u = some (kxs_mw "ValueError.__init__" e)) (hrest : rest.length ≤ sizeLine)
    (hq : ∀ h' t1, (∀ b o, b ≠ e → h.get? b = some o → h'.get? b = some o) → h'.get? e = some (excO C t1) → Q .none ⟨h', g, d, t, os⟩) :
    wpAny (model prog w) A (call (.ref u) rest) Q E ⟨h, g, d, t, os⟩ := by
  obtain ⟨nm, q, N, bs, bm, sn, sub, ab, col, dd, k0, k1, k2, k3, k5, hC, hbm⟩ := T.cls
  refine wpAny_call (codeAny_of_tree ?_)
  show wpAny _ A.in1 (callAny (.ref u) ⟨rest, []⟩) _ _ _
  simp only [callAny]
  refine wpAny_bind (wpAny_load hu ?_)
  simp only [kxs_mw, show (Value.type "method-wrapper" == Value.type "method" || Value.type "method-wrapper" == Value.type "builtin_function_or_method" || Value.type "method-wrapper" == Value.type "method-wrapper") = true by decide, if_true]
  refine W.KFB.if_so (by decide) ?_
  refine wpAny_bind (PySem.W.check_bound_init F.excBase_ValueError.toExcCallFacts (X _ _ hC) he rfl ?_)
  refine wpAny_bind (wpAny_pure (wpAny_pure ?_))
  refine ⟨plainId_quiet F.excBase_ValueError.init.plain _, codeAny_builtin F.excBase_ValueError.initEntry ?_⟩
  exact exc_init_tree (cls := .ref C) (t0 := t0) (dv := none) (c2 := .none) (c3 := .none) (b4 := .bool false) he hrest fun h' k e' _ => hq h' _ k e'
/-- the text that super().__init__ gets -/
def MsgOk (msg : Expr) (env : Env) (m : Str → Option Value) : Prop := ∀ (prog : Program) (w : World) (A : Around) (E : Value → Shared → Prop) (s : Shared) (Q : Value → Shared → Prop), s.heap.Ns env.locals m → (∀ v tk, Q v { s with toks := tk }) → wpAny (model prog w) A (eval msg env) Q E s
/-- its __init__, called -/
theorem err_init {mg : Str → Option Value} {cn : Str} {fI : Addr} {fs : List Str} {tm : Bool} (T : ErrTxt prog K mg tm cn C fI fs) {x t0 : Addr} {us : List Value} {vs : List L2.V} {mb : Str → Option Value} {R : Result → Shared → Prop} (hv : L2.Vals vs us) (hl : us.length = fs.length) (hl8 : fs.length ≤ 8) (hne : fs ≠ [])
    (hmsg : tm = true → ∀ u, us.head? = some u → ∃ (z : Str) (t : Tok), u = .str z t ∧ z.length ≤ 1000)
    (X : K.In s.heap) (hlim : s.heap.NoLimit) (hg : s.heap.Ns mainGlobals mg) (hb : s.heap.Ns builtinsNs mb) (hbs : mb "super" = bootBuiltins "super") (hx : s.heap.get? x = some (excO C t0)) (hnx : K.lookup x = none) (hroom : A.depth < recursionLimit)
    (hq : ∀ h' tk dx t1, InitEnd s.heap h' x C dx t1 fs vs → R (.ok (.ret .none)) { s with heap := h', toks := tk }) :
    codeAny (model prog w) A (.call (.ref fI) ⟨.ref x :: us, []⟩) R s := by
  obtain ⟨oc, od, qual, par, sc, msg, p1, p2, p3, p4, p5, fp, dV, kV, doc, pm, an, cda, cc, ct, osl, ar, ccl, cl, cdd, cld, ccs, csl, avs, file, tf, ho, hcd, har, hself, hcda, hfile, hfe, hcell, hfp, hpos, ⟨nS, nC, nSelf, nF, nD, nCell⟩, ⟨kF, kG, kCo⟩, hbind, hlook, hm⟩ := T.fn
  obtain ⟨lself, lf⟩ := hlook (.ref x) us hl
  obtain ⟨cd, hcd2, hmro, hhd⟩ := T.toClsK.data
  obtain ⟨oD, hD1, hD2⟩ : ∃ oD, s.heap.get? C = some oD ∧ oD.data = .cls cd := by
    unfold clsIn at hcd2
    split at hcd2
    · rename_i c d cd' sl ho'
      cases hcd2
      exact ⟨_, X _ _ ho', rfl⟩
    · cases hcd2
  have hxC : x ≠ C := fun z => by
    rw [z, hD1] at hx
    cases hx
    cases hD2
  refine ks_codeAny_call_defAt (fd := ksFn "__init__" qual par (stS msg p1 p2 p3 p4 p5 :: fp.map stF) sc dV kV doc pm an (.ref cda) ct cc) (body := stS msg p1 p2 p3 p4 p5 :: fp.map stF) (binds := ("self", .ref x) :: fs.zip us) hroom (X _ _ ho) rfl hlim (codeRec_of X hcd) rfl (hbind s (.ref x) us hl) nCell ?_ (fun h₁ hns hk₁ => ?_) kCo kG kF
  · intro y hy
    rcases List.mem_cons.mp hy with rfl | hy
    · exact nSelf
    · exact nF _ (List.of_mem_zip hy).1
  have X₁ : K.In h₁ := X.keeps hk₁
  have hx₁ := hk₁ _ _ hx
  have hLx : s.heap.objs.size ≠ x := Nat.ne_of_gt (Heap.lt_size hx)
  have hMsg : MsgOk msg (ksEnv qual sc s.heap.objs.size fI (.ref cda) cc) (fun y => (((("self" : Str), Value.ref x) :: fs.zip us).reverse.lookup y)) := by
    intro prog w A E s1 Q hn1 hq1
    rcases hm with ⟨_, z, i, p, rfl⟩ | ⟨htm, z, f, i, p, p', p'', rfl, hz, hf⟩
    · exact wpAny_Constant_str (hq1 _ _)
    · cases lf with
      | nil => cases hf
      | cons h1 _ =>
        cases hf
        obtain ⟨z2, t2, rfl, hz2⟩ := hmsg htm _ rfl
        refine wpAny_BinOp (wpAny_Constant_str (ld (env := ksEnv qual sc s.heap.objs.size fI (.ref cda) cc) hn1 h1 ?_ kF (nF _ (List.mem_cons_self ..)) (nD _ (List.mem_cons_self ..))))
        exact add_str (fun t' tk => hq1 _ _) (by rw [sizeLine_eq]; omega)
  obtain ⟨kind, names, isG, isC, more⟩ := sc
  dsimp only at kF kG kCo nS nC nSelf nF nCell
  subst kF kG kCo
  obtain ⟨pl, he⟩ : ∃ pl, eval (.Call (.Attribute (.Call (.Name "super" p1) [] [] p2) "__init__" p3) [msg] [] p4) (ksEnv qual ⟨.function, names, false, false, more⟩ s.heap.objs.size fI (.ref cda) cc) = (do
      let ov ← attributeBase (.Call (.Name "super" p1) [] [] p2) "__init__" (ksEnv qual ⟨.function, names, false, false, more⟩ s.heap.objs.size fI (.ref cda) cc) (eval (.Call (.Name "super" p1) [] [] p2) (ksEnv qual ⟨.function, names, false, false, more⟩ s.heap.objs.size fI (.ref cda) cc))
      standAt p3.atName
      let (f, first) ← holding [ov] (getMethod ov "__init__" pl)
      callWith p4 f first (backTo p4 (starEach [msg] (ksEnv qual ⟨.function, names, false, false, more⟩ s.heap.objs.size fI (.ref cda) cc))) []) := by
    have hmp : ∀ o env, methodCallPos true o env p3 p4 = pure p4 := fun o env => by
      unfold methodCallPos
      rw [hpos] <;> rfl
    have key : ∀ ms : Expr, methodCallForm ([ms].length + ([] : List Keyword).length) (backTo p4 (starEach [ms] (ksEnv qual ⟨.function, names, false, false, more⟩ s.heap.objs.size fI (.ref cda) cc))) (backToKw p4 (keywordEach [] (ksEnv qual ⟨.function, names, false, false, more⟩ s.heap.objs.size fI (.ref cda) cc))) = true →
        eval (.Call (.Attribute (.Call (.Name "super" p1) [] [] p2) "__init__" p3) [ms] [] p4) (ksEnv qual ⟨.function, names, false, false, more⟩ s.heap.objs.size fI (.ref cda) cc) = (do
      let ov ← attributeBase (.Call (.Name "super" p1) [] [] p2) "__init__" (ksEnv qual ⟨.function, names, false, false, more⟩ s.heap.objs.size fI (.ref cda) cc) (eval (.Call (.Name "super" p1) [] [] p2) (ksEnv qual ⟨.function, names, false, false, more⟩ s.heap.objs.size fI (.ref cda) cc))
      standAt p3.atName
      let (f, first) ← holding [ov] (getMethod ov "__init__" (do return (← importBound (.Call (.Name "super" p1) [] [] p2) (ksEnv qual ⟨.function, names, false, false, more⟩ s.heap.objs.size fI (.ref cda) cc)).getD true))
      callWith p4 f first (backTo p4 (starEach [ms] (ksEnv qual ⟨.function, names, false, false, more⟩ s.heap.objs.size fI (.ref cda) cc))) []) := by
      intro ms hf
      show (do
        let ov ← attributeBase (.Call (.Name "super" p1) [] [] p2) "__init__" (ksEnv qual ⟨.function, names, false, false, more⟩ s.heap.objs.size fI (.ref cda) cc) (eval (.Call (.Name "super" p1) [] [] p2) (ksEnv qual ⟨.function, names, false, false, more⟩ s.heap.objs.size fI (.ref cda) cc))
        standAt p3.atName
        methodCall (.Call (.Name "super" p1) [] [] p2) "__init__" p3 p4 (ksEnv qual ⟨.function, names, false, false, more⟩ s.heap.objs.size fI (.ref cda) cc) ov ([ms].length + ([] : List Keyword).length) (backTo p4 (starEach [ms] (ksEnv qual ⟨.function, names, false, false, more⟩ s.heap.objs.size fI (.ref cda) cc))) (backToKw p4 (keywordEach [] (ksEnv qual ⟨.function, names, false, false, more⟩ s.heap.objs.size fI (.ref cda) cc)))) = _
      unfold methodCall
      simp only [hf, hmp, pure_bind]
      rfl
    rcases hm with ⟨_, z, i, p, rfl⟩ | ⟨htm, z, f, i, p, p', p'', rfl, hz, hf⟩
    · exact ⟨_, key _ rfl⟩
    · exact ⟨_, key _ rfl⟩
  have hst : starEach [msg] (ksEnv qual ⟨.function, names, false, false, more⟩ s.heap.objs.size fI (.ref cda) cc) = [(false, eval msg (ksEnv qual ⟨.function, names, false, false, more⟩ s.heap.objs.size fI (.ref cda) cc))] := by
    rcases hm with ⟨_, z, i, p, rfl⟩ | ⟨htm, z, f, i, p, p', p'', rfl, hz, hf⟩
    · rfl
    · rfl
  -- super().__init__(..)
  refine ks_wpAt_execs_cons (ks_wpAt_Expr_any (ks_wpAt_MethodCall (pl := pl) ?_ he))
  refine ks_wpAt_super_base (env := ksEnv qual ⟨.function, names, false, false, more⟩ s.heap.objs.size fI (.ref cda) cc) nS nC (by decide) rfl (hk₁ _ _ (X _ _ ho)) rfl har rfl (X₁ _ _ hcda) rfl hfile hfe T.top ?_
  refine ks_loadName_global rfl nS (loadGlobal_builtin (env := ksEnv qual ⟨.function, names, false, false, more⟩ s.heap.objs.size fI (.ref cda) cc) (hg.keeps hk₁) T.msup (hb.keeps hk₁) (hbs.trans (by first | boot_by_name | rfl | kernel_rfl)) ⟨rfl, ?_⟩)
  refine wpAny_loadName_free rfl nC rfl ⟨_, X₁ _ _ hcell, rfl⟩ ?_
  rw [hself]
  refine wpAny_loadName_local rfl nSelf hns lself ?_
  refine ks_wpAny_isType_cls (hk₁ _ _ hD1) hD2 ⟨rfl, ?_⟩
  refine ks_wpAny_call_super (hk₁ _ _ hD1) hD2 hx₁ rfl (fun c e => by cases e) (looks_mroIn X₁ T.mro) (fun h₂ eso k₂ => ?_)
  have X₂ : K.In h₂ := X₁.keeps k₂
  have hx₂ := k₂ _ _ hx₁
  have hnsU : ∀ {h : Heap}, (∀ b o, h₁.get? b = some o → h.get? b = some o) → h.Ns s.heap.objs.size (fun y => ((("self" : Str), Value.ref x) :: fs.zip us).reverse.lookup y) := fun {h} k => hns.keeps k
  have hsup := T.sup
  unfold ks_superIn at hsup
  rw [hcd2] at hsup
  refine kxs_getMethod kxs_ValueError (K := K) eso (looks_opaque X₂ T.opq) (l₀ := cd.mro) ?_ rfl X₂ hsup ?_ hxC (by decide) ?_
  · exact fun A Q E s k q => wpAny_bind ((looks_clsIn X₂ hcd2) A _ E s k (wpAny_pure q))
  · exact (InstAt.type (od := none) ⟨hx₂, rfl, rfl, trivial⟩).andThen (looks_subIn X₂ T.veC)
  · have k₃ : ∀ b o, h₂.get? b = some o → (h₂.push (kxs_mw "ValueError.__init__" x)).get? b = some o := fun b o e => Heap.get?_push_of_some _ e
    show wpAny _ _ (callWith p4 (.ref h₂.objs.size) [] (backTo p4 (starEach [msg] (ksEnv qual ⟨.function, names, false, false, more⟩ s.heap.objs.size fI (.ref cda) cc))) []) _ _ _
    rw [hst]
    refine kxs_callWith (i := "ValueError.__init__") (x := x) rfl (evalArgs_plain ?_)
    refine spliced_cons ?_
    refine hMsg prog w _ _ _ _ (hnsU fun b o e => k₃ b o (k₂ b o e)) (fun v tk => spliced_nil ⟨?_, ?_⟩)
    · exact Heap.get?_push_at rfl rfl
    · refine call_bw T.toClsK (X₂.keeps k₃) (k₃ _ _ hx₂) (Heap.get?_push_at rfl rfl) (by rw [sizeLine_eq]; exact (by decide : 1 ≤ 16777216)) (fun h₄ t1 k₄ hx₄ => ?_)
      have hsz : ∀ {b : Addr} {o : Obj}, s.heap.get? b = some o → b ≠ x → h₄.get? b = some o := fun {b o} e hb => k₄ b o hb (k₃ b o (k₂ b o (hk₁ b o e)))
      have hL4 : h₄.Ns s.heap.objs.size (fun y => ((("self" : Str), Value.ref x) :: fs.zip us).reverse.lookup y) := by
        obtain ⟨o, es, ep, e1, e2⟩ := hns
        exact ⟨o, es, ep, k₄ _ _ hLx (k₃ _ _ (k₂ _ _ e1)), e2⟩
      cases fp with
      | nil => exact absurd hfp.symm (by simpa using hne)
      | cons q fp =>
        have hP : Paired (fun (q : FP) u => ((("self" : Str), Value.ref x) :: fs.zip us).reverse.lookup q.1 = some u) (q :: fp) us := by
          rw [← hfp] at lf
          have key : ∀ (m : Str → Option Value) (l : List FP) (us : List Value), Paired (fun f u => m f = some u) (l.map (·.1)) us → Paired (fun (q : FP) u => m q.1 = some u) l us := by
            intro m l
            induction l with
            | nil => intro us h; cases h; exact .nil
            | cons a l ih => intro us h; cases h with | cons h1 h2 => exact .cons h1 (ih _ h2)
          have := key (fun y => ((("self" : Str), Value.ref x) :: fs.zip us).reverse.lookup y) (q :: fp) us (by simpa [hfp] using lf)
          exact this
        show wpAt _ _ _ (execs ((q :: fp).map stF) _) _ _ _
        refine wpAt_of_wpAny (stores_new (m := fun y => (((("self" : Str), Value.ref x) :: fs.zip us).reverse.lookup y)) T.toClsK (env := ksEnv qual ⟨.function, names, false, false, more⟩ s.heap.objs.size fI (.ref cda) cc) rfl nSelf lself q fp us vs hv (fun q' hq' => ?_) hP ⟨h₄, s.gens, s.drawn, tk, s.os⟩ _ ((fun a o e => hsz (X a o e) (fun z => by rw [z, hnx] at e; cases e))) hL4 hLx hnx hx₄ ?_ (fun h' tk' dx mB k5 dn dne hx5 hn5 r5 => ?_))
        · have hin : q'.1 ∈ fs := by rw [← hfp]; exact List.mem_map_of_mem hq'
          exact ⟨hin, nF _ hin, nD _ hin⟩
        · have : (q :: fp).length = fs.length := by rw [← hfp, List.length_map]
          simp only [List.length_cons] at this
          omega
        · refine hq h' tk' dx t1 ⟨fun b o hb e => k5 b o hb (hsz e hb), hx5, ?_, dne, mB, hn5, ?_⟩
          · refine Nat.le_trans ?_ dn
            have z1 : s.heap.objs.size < h₄.objs.size := by
              obtain ⟨o, es, ep, e1, e2⟩ := hL4
              exact Heap.lt_size e1
            exact Nat.le_of_lt z1
          · intro f
            have := r5 f
            rw [hfp] at this
            exact this
/-- a made error -/
structure OwnMade (h h' : Heap) (e C d : Addr) (fs : List Str) (vs : List L2.V) : Prop where
  keep : ∀ b o, h.get? b = some o → h'.get? b = some o
  new : h.objs.size ≤ e
  obj : ∃ oe as, h'.get? e = some oe ∧ oe.cls = .ref C ∧ oe.dict = some d ∧ oe.data = .fields as ∧ as[1]? = some .none
  dbig : h.objs.size ≤ d
  dne : d ≠ e
  ns : ∃ mB, h'.Ns1 d mB ∧ ∀ f, L2.RelO ((fs.zip vs).reverse.lookup f) (mB f)
theorem err_made {mg : Str → Option Value} {cn : Str} {fI : Addr} {fs : List Str} {tm : Bool} (T : ErrTxt prog K mg tm cn C fI fs) {us : List Value} {vs : List L2.V} {mb : Str → Option Value} {R : Result → Shared → Prop} (hv : L2.Vals vs us) (hl : us.length = fs.length) (hl8 : fs.length ≤ 8) (hne : fs ≠ [])
    (hmsg : tm = true → ∀ u, us.head? = some u → ∃ (z : Str) (t : Tok), u = .str z t ∧ z.length ≤ 1000)
    (X : K.In s.heap) (hlim : s.heap.NoLimit) (hg : s.heap.Ns mainGlobals mg) (hb : s.heap.Ns builtinsNs mb) (hbs : mb "super" = bootBuiltins "super") (hroom : A.depth + 1 < recursionLimit)
    (hq : ∀ h' tk e d, OwnMade s.heap h' e C d fs vs → R (.ok (.ret (.ref e))) { s with heap := h', toks := tk }) :
    codeAny (model prog w) A (.call (.ref C) ⟨us, []⟩) R s := by
  obtain ⟨nm, q, N, bs, bm, sn, sub, ab, col, dd, k0, k1, k2, k3, k5, hC, hbm⟩ := T.cls
  obtain ⟨hp, g, dr, tk, os⟩ := s
  have k : ∀ b o, hp.get? b = some o → ((hp.push (kdv_tup us)).push (excO C hp.objs.size)).get? b = some o := fun b o e => Heap.get?_push_of_some _ (Heap.get?_push_of_some _ e)
  have hget : ((hp.push (kdv_tup us)).push (excO C hp.objs.size)).get? (hp.objs.size + 1) = some (excO C hp.objs.size) := by heap_get
  have hnx : K.lookup (hp.objs.size + 1) = none := by
    cases e : K.lookup (hp.objs.size + 1) with
    | none => rfl
    | some o =>
      have z : hp.get? (hp.objs.size + 1) = some o := X _ _ e
      exact absurd (Nat.lt_of_succ_lt (Heap.lt_size z)) (Nat.lt_irrefl _)
  refine call_own F.excBase_ValueError (fun X => refsVE_contains X bm hbm) (X _ _ hC) (looks_findIn X T.iC) (fun self => bind_fn X self T.tC) (by rw [sizeLine_eq]; omega) ?_
  refine err_init (s := ⟨(hp.push (kdv_tup us)).push (excO C hp.objs.size), g, dr, tk, os⟩) T hv hl hl8 hne hmsg (X.keeps k) (hlim.keeps k) (hg.keeps k) (hb.keeps k) hbs hget hnx ?_ fun h' tk' dx t1 ⟨k', hx, dn, dne, hns⟩ => ?_
  · show A.depth + 1 < recursionLimit
    exact hroom
  · have old : ∀ b o, hp.get? b = some o → h'.get? b = some o := fun b o e => k' b o (Nat.ne_of_lt (Nat.lt_succ_of_lt (Heap.lt_size e))) (k b o e)
    have z : hp.objs.size + 1 + 1 ≤ dx := by
      first
        | (simpa only [Heap.size_push] using dn)
        | exact dn
        | (have q := dn; rw [Heap.size_push, Heap.size_push] at q; exact q)
    exact ⟨rfl, hq h' tk' (hp.objs.size + 1) dx ⟨old, Nat.le_succ _, ⟨_, _, hx, rfl, rfl, rfl, rfl⟩, Nat.le_trans (Nat.le_trans (Nat.le_succ _) (Nat.le_succ _)) z, dne, hns⟩⟩
end
end HErr
end PySem
namespace L2
open PySem PySem.Spec PyProof.Rows PySem.HErr
section
variable {X : Cx} {C fI : Addr} {cn : Str} {fs : List Str} {tm : Bool}
/-- C(e, ..), an error of the package -/
def tMkE (tm : Bool) (C : Addr) (fs : List Str) (ta : TA) : St → Hp → XK → Prop := fun σ H Q => ta σ H fun vs H1 => vs.length = fs.length ∧ (tm = true → ∃ (z : Str) (r : List V), vs = .str z :: r ∧ z.length ≤ 1000) ∧
  ∀ d, H1 d = none → Q (.ref C) (some d) (upd H1 d (.xd (fs.zip vs).reverse))
theorem pmk_err {a : Expr} {as : List Expr} {ta : TA} {p pos : Pos} {k : Nat} (T : ErrTxt X.prog X.K X.mg tm cn C fI fs) (hr : Room k X.A) (ha : PA X (a :: as) ta) (hl8 : fs.length ≤ 8) (hne : fs ≠ []) (hg : Gl X cn := by rfl) (hdb : (cn == ("__debug__" : Str)) = false := by decide)
    (he : starEach (a :: as) X.env = (false, eval a X.env) :: starEach as X.env := by rfl) (hpl : (backTo pos (starEach as X.env)).any (·.1) = false := by rfl) :
    PMk X (.Call (.Name cn p) (a :: as) [] pos) (tMkE tm C fs ta) := by
  intro pins s σ H Q I h
  refine wpAny_Call_Name_kw (ld_glob I hg T.gC ?_ hdb)
  refine PySem.W.callWith_K (h₀ := X.base) I.ok.mod.kin T.kC (thn (ha.run pos pins s σ H _ I h) fun us s1 hh => ?_) he hpl
  obtain ⟨vs, H1, I1, r1, hl, hz, q1⟩ := hh
  refine ⟨I1.kIn, ?_⟩
  show wpAny _ _ (call (.ref C) us) _ _ _
  have hlim := I1.nolimit
  obtain ⟨mb, hb1, hb2⟩ := I1.mod.blt
  have hgl := I1.mod.glob.keeps I1.bk
  have hbl := hb1.keeps I1.bk
  obtain ⟨hp, g, dr, tk, os⟩ := s1
  refine wpAny_call (err_made (mb := mb) T r1 (r1.length.symm.trans hl) hl8 hne ?_ I1.kIn hlim hgl hbl (hb2 "super" (by decide)) (by have := hr.dp; omega) fun h' tk' e d M => ?_)
  · intro ht u hu
    obtain ⟨z, r, rfl, hz5⟩ := hz ht
    cases r1 with
    | cons r0 _ =>
      cases hu
      obtain ⟨t, rfl⟩ := r0
      exact ⟨z, t, rfl, hz5⟩
  show MkP X pins σ Q (.ref e) ⟨h', g, dr, tk', os⟩
  obtain ⟨oe, fv, hoe, hc, hd, hdat, h1⟩ := M.obj
  obtain ⟨mB, hns, hrel⟩ := M.ns
  obtain ⟨G', g1, g2⟩ := restrict h' fun b => decide (b ≠ e)
  have gk : ∀ b, b ≠ e → G'.get? b = h'.get? b := fun b hb => g1 b (decide_eq_true hb)
  have ge : G'.get? e = none := g2 e (by simp)
  have old : ∀ b o, hp.get? b = some o → G'.get? b = some o := fun b o q => (gk b (Nat.ne_of_lt (Nat.lt_of_lt_of_le (Heap.lt_size q) M.new))).trans (M.keep b o q)
  have ob : ObjOk X.prog X.w (upd H1 d (.xd (fs.zip vs).reverse)) G' d (.xd (fs.zip vs).reverse) :=
    ⟨mB, hns.at (fun o q => (gk d M.dne).trans q), hrel⟩
  have J : Inv X pins σ (upd H1 d (.xd (fs.zip vs).reverse)) ⟨G', g, dr, tk', os⟩ := I1.laid (t' := tk') old M.dbig ob
  refine ⟨e, oe, fv, ⟨G', g, dr, tk', os⟩, _, .ref C, some d, rfl, J, fun b o q => ?_, ge, hoe, ⟨hc, hd⟩, hdat, h1, ?_, rfl, I1.bare, raises_own T.exC T.tyC, q1 d (I1.hok.fresh M.dbig)⟩
  · by_cases hb : b = e
    · have q' : G'.get? b = some o := q
      rw [hb, ge] at q'; cases q'
    · exact (gk b hb).symm.trans q
  · rw [upd_ne (Ne.symm M.dne)]
    exact I1.hok.fresh M.new
/-- raise C(e, ..) -/
def tRaiseE (tm : Bool) (C : Addr) (fs : List Str) (W : WX) (ta : TA) : TS := fun _ σ H => tMkE tm C fs ta σ H fun cls d H' => W cls d σ H'
theorem ps_raiseE {a : Expr} {as : List Expr} {ta : TA} {W : WX} {p pos pos2 : Pos} {k : Nat} (hc : X.calm = true) (T : ErrTxt X.prog X.K X.mg tm cn C fI fs) (hr : Room k X.A) (tk : Takes X W) (ha : PA X (a :: as) ta) (hl8 : fs.length ≤ 8 := by decide) (hne : fs ≠ [] := by decide) (hg : Gl X cn := by rfl) (hdb : (cn == ("__debug__" : Str)) = false := by decide)
    (he : starEach (a :: as) X.env = (false, eval a X.env) :: starEach as X.env := by rfl) (hpl : (backTo pos (starEach as X.env)).any (·.1) = false := by rfl) :
    PS X (.Raise (some (.Call (.Name cn p) (a :: as) [] pos)) none pos2) (tRaiseE tm C fs W ta) := ps_raise hc tk (pmk_err T hr ha hl8 hne hg hdb he hpl)
/-- an own class in an except clause -/
theorem _root_.PySem.HErr.ErrTxt.xf {P : Program} {K : PySem.W.Frag} {mg : Str → Option Value} (T : ErrTxt P K mg tm cn C fI fs) : XfC K C := ⟨T.ga, T.gg, T.exC, T.hdC⟩
theorem _root_.PySem.HErr.ErrTxt.te {P : Program} {K : PySem.W.Frag} {mg : Str → Option Value} (T : ErrTxt P K mg tm cn C fI fs) : PySem.W.exmOne K (.ref C) (.ref C) = some true := PySem.W.exm_ref T.exC T.hdC T.tyC T.sub
/-- what isinstance asks of the class of an error -/
structure IsC (K : PySem.W.Frag) (D : Addr) : Prop where
  hg : PySem.W.findIn K (.ref D) "__getattribute__" = some (some (.builtin "BaseException.__getattribute__"))
  hk : PySem.W.findIn K (.ref D) "__getattr__" = some none
  hs : PySem.W.subIn K (.ref D) (.type "BaseException") = some true
  hd : PySem.W.hasDictIn K D = true
  ha : PySem.W.findIn K (.ref D) "__class__" = some (some (.builtin "object.__class__"))
  hn : PySem.W.specialIn K (.builtin "object.__class__") "__get__" = some (some (.builtin "getset_descriptor.__get__"))
  ht : PySem.W.takesIn K (.builtin "object.__class__") = some true
  hm : PySem.W.mroIn K D (.type "object") = some true
theorem _root_.PySem.HErr.ErrTxt.isC {P : Program} {K : PySem.W.Frag} {mg : Str → Option Value} (T : ErrTxt P K mg tm cn C fI fs) : IsC K C := ⟨T.ga, T.gg, T.exC, T.hdC, T.ca, T.cg, T.ct, T.mo⟩
/-- isinstance(e, c), e the error (with fields) that the suite holds -/
def rIsD (K : PySem.W.Frag) (cls : Value) (d : Option Addr) (a : Addr) : List V → Hp → VK → Prop := fun xs H Q => ∃ (D dd : Addr) (fs : List (Str × V)) (c : V) (cv : Value) (b : Bool), cls = .ref D ∧ IsC K D ∧ d = some dd ∧ H dd = some (.xd fs) ∧ xs = [.ref a, c] ∧ (∀ u, RelV c u → u = cv) ∧ PySem.W.kitOne K (.ref D) cv = some b ∧ Q (.bl b) H
theorem call_isD {a : Addr} {oe : Obj} {cls : Value} {d : Option Addr} {pn : List (Addr × Obj)} (hz : Zc cls d oe) (hf : ∃ vs, oe.data = .fields vs) : CallR (X.suite a ((a, oe) :: pn)) (.builtin "isinstance") (rIsD X.K cls d a) := by
  intro pins s σ H xs us Q I r h
  obtain ⟨D, dd, fs, c, cv, b, rfl, C, rfl, hdd, rfl, hcv, e, q⟩ := h
  cases r with
  | cons rx rr =>
    cases rr with
    | cons rt rr =>
      cases rr
      cases rx
      have ec := hcv _ rt
      subst ec
      obtain ⟨hget, _⟩ := I.pin (a, oe) (List.mem_append.mpr (.inl List.mem_cons_self))
      obtain ⟨vs, hv⟩ := hf
      have hx : ObjOk X.prog X.w H s.heap dd (.xd fs) := I.hok dd _ hdd
      obtain ⟨mA, hns, hr⟩ := hx
      obtain ⟨od, ho, hl⟩ := lookIn_ns hns
      have J : PySem.W.InstAt s.heap a oe D (some od) := ⟨hget, hz.1, by unfold PySem.W.notCls; rw [hv] <;> rfl, by rw [hz.2]; exact ho⟩
      have hcl : (PySem.W.clsIn X.K D).isSome = true := by
        obtain ⟨cd, hc, _⟩ := PySem.W.any_some C.hd
        rw [hc]
        rfl
      exact PySem.W.kia_one (PySem.W.kitx_exc hcl C.hg C.hk C.hs C.ha C.hn C.ht C.hm) I.kIn J e (fun z => nomatch z) fun tk => ⟨.bl b, H, I.kept (t' := tk) fun _ _ z => z, rfl, q⟩
end
end L2

set_option Elab.async false
set_option linter.all false
set_option maxRecDepth 100000
set_option maxHeartbeats 4000000
/-! try with several except clauses, each with or without a name. -/
namespace L2
open PySem PySem.Spec PyProof.Rows PySem.HErr
abbrev Clause := Value × Option Nat × (Addr → Value → Option Addr → TS)
def endsAt (o : Option Nat) (D : Ends) : Ends := match o with
  | none => D
  | some i => { nx := fun σ H => D.nx (σ.set i none) H, rt := D.rt, bk := fun σ H => D.bk (σ.set i none) H, ct := fun σ H => D.ct (σ.set i none) H }
def slotAt (o : Option Nat) (a : Addr) (σ : St) : St := match o with
  | none => σ
  | some i => σ.set i (some (.ref a))
/-- what the clauses want of an exception of the body, from the first on -/
def wClauses (K : PySem.W.Frag) (Wout : WX) (D : Ends) : List Clause → WX
  | [] => Wout
  | (c, o, ts) :: r => fun cls d σ H => ∃ b, PySem.W.exmOne K cls c = some b ∧ (b = true → ∀ a, H a = none → ts a cls d (endsAt o D) (slotAt o a σ) H) ∧ (b = false → wClauses K Wout D r cls d σ H)
inductive Clauses (X : Cx) : List ExceptHandler → List Clause → Prop
  | nil : Clauses X [] []
  | bare {x : Str} {c : Value} {ts : Addr → Value → Option Addr → TS} {b₀ : Stmt} {suite : List Stmt} {np pos' : Pos} {hds : List ExceptHandler} {l : List Clause} (hc : Names X x c)
      (hsu : ∀ (a : Addr) (oe : Obj) (cls : Value) (d : Option Addr) (pn : List (Addr × Obj)), Zc cls d oe → (∃ vs, oe.data = .fields vs) → PSs (X.suite a ((a, oe) :: pn)) (b₀ :: suite) (ts a cls d)) (r : Clauses X hds l) :
      Clauses X (.ExceptHandler (some (.Name x np)) none (b₀ :: suite) pos' :: hds) ((c, none, ts) :: l)
  | named {x n : Str} {i : Nat} {c : Value} {ts : Addr → Value → Option Addr → TS} {b₀ : Stmt} {suite : List Stmt} {np pos' : Pos} {hds : List ExceptHandler} {l : List Clause} (hi : X.N[i]? = some n) (hln : X.env.kindOf n = some .local) (hc : Names X x c)
      (hsu : ∀ (a : Addr) (oe : Obj) (cls : Value) (d : Option Addr) (pn : List (Addr × Obj)), Zc cls d oe → (∃ vs, oe.data = .fields vs) → PSs (X.suite a ((a, oe) :: pn)) (b₀ :: suite) (ts a cls d)) (r : Clauses X hds l) :
      Clauses X (.ExceptHandler (some (.Name x np)) (some n) (b₀ :: suite) pos' :: hds) ((c, some i, ts) :: l)
section
variable {X : Cx} {body : List Stmt} {h₀ : ExceptHandler} {hds : List ExceptHandler} {l : List Clause} {pos : Pos} {tb : WX → TS} {Wout : WX}
theorem ps_try_all (hs : X.stack = X.env :: X.outer) (hf : X.env.frame = some X.env.locals) (hN : X.N.Nodup) (tk : Takes X Wout)
    (hb : ∀ (W : WX) (pn : List (Addr × Obj)) (xe : Value → Shared → Prop), Takes (X.tr pn xe) W → PassesOwn (model X.prog X.w) X.A X.env xe → PSs (X.tr pn xe) body (tb W))
    (hh : Clauses X (h₀ :: hds) l) {K : PySem.W.Frag} (hK : X.K = K := by rfl) : PS X (.Try body (h₀ :: hds) [] [] pos) (fun D σ H => tb (wClauses K Wout D l) D σ H) := by
  subst hK
  refine ⟨fun pins s σ H D I h => ?_⟩
  have ok := I.ok
  have hfr : X.A.frames = some (X.env :: X.outer) := by rw [ok.frames, hs]
  refine wpAny_Try_except ?_
  refine wpAny_mono ((hb (wClauses X.K Wout D l) (X.pn ++ pins) (fun e s₁ => wpAny (model X.prog X.w) X.A (noteFrame e X.env) (fun _ s₂ => wpAny (model X.prog X.w) X.A (setFlight e none) (fun _ s₃ =>
    wpAny (model X.prog X.w) X.A (handleBy e X.env (h₀ :: hds)) (SP X pins D) X.xe s₃) X.xe s₂) X.xe s₁) (fun u s' xx => ?_) PassesOwn.looking).run [] s σ H D (I.toTry _) h) (fun f s1 hsp => ?_) (fun e s1 he => he)
  · obtain ⟨a, Bg, sI, pins', σ', H', cls, d, rfl, J', nb, up, sky, na, os, ag, ww⟩ := xx
    have J : Inv X pins σ' H' sI := J'.ofTry ok
    have sky' : Sky Bg (X.env :: X.outer) a (Zc cls d) X.env.locals s'.heap := by rw [← hs]; exact sky
    show wpAny (model X.prog X.w) X.A (noteFrame (.ref a) X.env) _ _ _
    refine Sky.land Zc.steady hfr hf sky' fun h3 fl3 up3 => ?_
    have J3 : Inv X pins σ' H' { s' with heap := h3 } := J.landed nb fl3.1 (up.trans up3) os ag
    obtain ⟨oe3, vs3, he3, hz3, hd3⟩ := fl3.there
    have nfr : a ∉ frs (X.env :: X.outer) := fun hm => by
      obtain ⟨_, o', e', hnf⟩ := fl3.2.2.1.mem hm
      rw [he3] at e'
      cases e'
      exact hnf _ hd3
    have nL : a ≠ X.env.locals := fun z => nfr (List.mem_filterMap.mpr ⟨X.env, List.mem_cons_self, by rw [hf, z]⟩)
    have nF : a ∉ X.fs := fun hm => by
      obtain ⟨e, he, q⟩ := List.mem_filterMap.mp hm
      exact nfr (List.mem_filterMap.mpr ⟨e, List.mem_cons_of_mem _ he, q⟩)
    have S3 := J3.suite he3 hd3 na nL nF
    have test : ∀ {x : Str} {c : Value} {np : Pos} {Q : Value → Shared → Prop} {E : Value → Shared → Prop}, Names X x c → Q c { s' with heap := h3 } → wpAny (model X.prog X.w) (X.A.mark (some (.ref a))) (eval (.Name x np) X.env) Q E { s' with heap := h3 } := fun {x c np Q E} hc q => by
      obtain ⟨hg, hdbg, hm | ⟨hm, hv, hnn⟩⟩ := hc
      · exact ld_glob (X := X.suite a ((a, oe3) :: (X.pn ++ pins))) S3 hg hm q hdbg
      · exact ld_blt (X := X.suite a ((a, oe3) :: (X.pn ++ pins))) S3 hg hm hv q hnn hdbg
    have LT : PySem.W.Looks (model X.prog X.w) h3 (typeOf (.ref a)) cls := fun A Q E s k q => wpAny_typeOf_ref (k _ _ he3) (by rw [hz3.1]; exact q)
    have go : ∀ {hds' : List ExceptHandler} {l' : List Clause}, Clauses X hds' l' → wClauses X.K Wout D l' cls d σ' H' →
        wpAny (model X.prog X.w) X.A (handleBy (.ref a) X.env hds') (SP X pins D) X.xe { s' with heap := h3 } := by
      intro hds' l' hk
      induction hk with
      | nil =>
        intro ww
        refine wpAny_handleBy_nil ?_
        obtain ⟨k1, k2, k3, oe, vs, T, oT, ts', he, hz, hd, h1, hr⟩ := id fl3
        unfold PySem.passOn
        refine wpAny_bind (wpAny_field he hd h1 ?_)
        rw [if_neg (show ¬ ((Value.ref T == Value.none) = true) from by simp)]
        have fin : wpAny (model X.prog X.w) X.A (setFlight (.ref a) X.env.frame) (fun _ s4 => wpAny (model X.prog X.w) X.A (throw (.ref a) : Sem Flow) (SP X pins D) X.xe s4) X.xe { s' with heap := h3 } := by
          rw [hf]
          refine HandSPX.setFlight_upZ fl3 fun h4 hh4 up4 => wpAny_throw (tk _ _ ?_)
          exact ⟨a, Bg, sI, pins, σ', H', cls, d, rfl, J, nb, (up.trans up3).trans up4, .inr (.inr (by rw [hs]; exact hh4)), na, os, ag, ww⟩
        first
          | exact wpAny_bind (wpAny_pure (wpAny_bind fin))
          | exact wpAny_bind fin
      | @bare x c ts b₀ suite np pos' hds2 l2 hc hsu r ih =>
        intro ww
        obtain ⟨b, hb1, hyes, hno⟩ := ww
        refine wpAny_handleBy_cons (codeAny_handlers_test ?_) (by intro q; cases q)
        have LM := PySem.W.exm_one (M := model X.prog X.w) (J3.kIn) LT hb1
        refine test hc (LM.here ?_)
        cases b with
        | true =>
          refine codeAny_handlers_suite (HandSPX.lands_againZ fl3 fun h4 fl4 up4 => ?_)
          have J4 : Inv X pins σ' H' { s' with heap := h4 } := J.landed nb fl4.1 ((up.trans up3).trans up4) os ag
          obtain ⟨oe4, vs4, he4, hz4, hd4⟩ := fl4.there
          have S4 := J4.suite he4 hd4 na nL nF
          refine wpAny_mono ((hsu a oe4 cls d (X.pn ++ pins) hz4 ⟨_, hd4⟩).run [] _ _ H' _ S4 (hyes rfl a na)) (fun f s6 hsp => ?_) (fun _ _ z => False.elim z)
          cases f with
          | ret u =>
            obtain ⟨v6, σ6, H6, S6, r6, q6⟩ := hsp
            exact ⟨_, _, _, S6.unsuite ok, r6, q6⟩
          | _ =>
            obtain ⟨σ6, H6, S6, q6⟩ := hsp
            exact ⟨_, _, S6.unsuite ok, q6⟩
        | false =>
          show wpAny _ X.A (handleBy (.ref a) X.env hds2) _ _ _
          exact ih (hno rfl)
      | @named x n i c ts b₀ suite np pos' hds2 l2 hi hln hc hsu r ih =>
        intro ww
        obtain ⟨b, hb1, hyes, hno⟩ := ww
        refine wpAny_handleBy_cons (codeAny_handlers_test ?_) (by intro q; cases q)
        have LM := PySem.W.exm_one (M := model X.prog X.w) (J3.kIn) LT hb1
        refine test hc (LM.here ?_)
        cases b with
        | true =>
          refine codeAny_handlers_suite_as (HandSPX.lands_againZ fl3 fun h4 fl4 up4 => ?_)
          have J4 : Inv X pins σ' H' { s' with heap := h4 } := J.landed nb fl4.1 ((up.trans up3).trans up4) os ag
          obtain ⟨oe4, vs4, he4, hz4, hd4⟩ := fl4.there
          have S4 := J4.suite he4 hd4 na nL nF
          refine store_ok (X := X.suite a ((a, oe4) :: (X.pn ++ pins))) (v := .ref a) S4 hN hi (.inl hln) rfl (fun s5 S5 => ?_) (.inr hln)
          refine wpAny_mono ((hsu a oe4 cls d (X.pn ++ pins) hz4 ⟨_, hd4⟩).run [] s5 _ H' _ S5 (hyes rfl a na)) (fun f s6 hsp => ?_) (fun _ _ z => False.elim z)
          have end_ : ∀ {σ6 : St} {H6 : Hp} {Q : Shared → Prop}, Inv (X.suite a ((a, oe4) :: (X.pn ++ pins))) [] σ6 H6 s6 → (∀ s7, Inv X pins (σ6.set i none) H6 s7 → Q s7) →
              wpAny (model X.prog X.w) X.A (do bindName X.env n .none; unbindBehindTheSuite X.env n pos') (fun _ s7 => Q s7) X.xe s6 := fun {σ6 H6 Q} S6 hq => gone_ok (S6.unsuite ok) hN hi hln hq
          cases f with
          | ret u =>
            obtain ⟨v6, σ6, H6, S6, r6, q6⟩ := hsp
            exact end_ S6 fun s7 J7 => ⟨_, _, _, J7, r6, q6⟩
          | next =>
            obtain ⟨σ6, H6, S6, q6⟩ := hsp
            exact end_ S6 fun s7 J7 => ⟨_, _, J7, q6⟩
          | brk =>
            obtain ⟨σ6, H6, S6, q6⟩ := hsp
            exact end_ S6 fun s7 J7 => ⟨_, _, J7, q6⟩
          | cont =>
            obtain ⟨σ6, H6, S6, q6⟩ := hsp
            exact end_ S6 fun s7 J7 => ⟨_, _, J7, q6⟩
        | false =>
          show wpAny _ X.A (handleBy (.ref a) X.env hds2) _ _ _
          exact ih (hno rfl)
    exact go hh ww
  · cases f with
    | next =>
      obtain ⟨σ', H', J', q⟩ := hsp
      exact wpAny_execs_nil ⟨σ', H', J'.ofTry ok, q⟩
    | brk =>
      obtain ⟨σ', H', J', q⟩ := hsp
      exact ⟨σ', H', J'.ofTry ok, q⟩
    | cont =>
      obtain ⟨σ', H', J', q⟩ := hsp
      exact ⟨σ', H', J'.ofTry ok, q⟩
    | ret u =>
      obtain ⟨v, σ', H', J', r, q⟩ := hsp
      exact ⟨v, σ', H', J'.ofTry ok, r, q⟩
end
end L2

set_option Elab.async false
set_option linter.all false
set_option maxRecDepth 100000
set_option maxHeartbeats 4000000
/-! Defs by their names; the built-ins that the texts use; a module's constants. -/
namespace L2
open PySem PySem.Spec PyProof.Rows PySem.HErr
/-- none of these built-ins is shadowed -/
structure Bl (mg : Str → Option Value) : Prop where
  len : mg "len" = none
  range : mg "range" = none
  abs : mg "abs" = none
  sum : mg "sum" = none
  sorted : mg "sorted" = none
  isinstance : mg "isinstance" = none
  zip : mg "zip" = none
  enumerate : mg "enumerate" = none
  reversed : mg "reversed" = none
  int' : mg "int" = none
  str' : mg "str" = none
  list' : mg "list" = none
  tuple' : mg "tuple" = none
  bool' : mg "bool" = none
  all' : mg "all" = none
  any' : mg "any" = none
  ValueError : mg "ValueError" = none
/-- the module's name x is the value v -/
def Glo (mg : Str → Option Value) (x : Str) (v : V) : Prop := ∃ u, mg x = some u ∧ RelV v u
/-- a def of the text stands where its name says -/
structure Src (K : PySem.W.Frag) (mg : Str → Option Value) (x : Str) (st : Stmt) (ps : List Str) : Prop where
  ex : ∃ f fd, Fun K x x st f fd ∧ mg x = some (.ref f) ∧ Binds K fd ps []
/-- the def x keeps the promise sp -/
structure Def (P : Program) (w : World) (K : PySem.W.Frag) (mg : Str → Option Value) (base : Heap) (CX : CXT) (k : Nat) (x : Str) (ps : List Str) (sp : Sp) : Prop where
  ex : ∃ f fd, mg x = some (.ref f) ∧ PySem.W.keepIn K (.ref f) = true ∧ Binds K fd ps [] ∧ FnOk P w K mg base CX k f fd ps sp
section
variable {P : Program} {w : World} {K : PySem.W.Frag} {mg : Str → Option Value} {base : Heap} {CX : CXT} {x : Str} {st : Stmt} {N ps : List Str} {k : Nat} {sp : Sp}
theorem Def.mono {j : Nat} (D : Def P w K mg base CX j x ps sp) (h : j ≤ k) : Def P w K mg base CX k x ps sp := by
  obtain ⟨f, fd, h1, h2, h3, h4⟩ := D.ex
  exact ⟨f, fd, h1, h2, h3, h4.mono h⟩
theorem Def.imp {sp' : Sp} (D : Def P w K mg base CX k x ps sp) (h : ∀ vs H Q E, sp' vs H Q E → sp vs H Q E) : Def P w K mg base CX k x ps sp' := by
  obtain ⟨f, fd, h1, h2, h3, h4⟩ := D.ex
  exact ⟨f, fd, h1, h2, h3, h4.imp h⟩
theorem Src.ok (F : Src K mg x st ps) (S : FnScope N ps (defScope st)) (len : ∀ vs H Q E, sp vs H Q E → vs.length = ps.length)
    (hbody : ∀ (f : Addr) (cdv : Value) (A : Around) (outer : List Env) (s : Shared) (H : Hp) (vs : List V) (Q : VK) (E : XK), Room k (A.deeper (envOfC x (defScope st) s.heap.objs.size f cdv)) → sp vs H Q E →
      ∃ t, PSs (cxOf CX0 P w K mg base N x (defScope st) f cdv A outer s H E).nox (defBody st) t ∧ t { nx := fun _ H' => Q .non H', rt := Q } (start N vs) H) : Def P w K mg base CX0 (k + 1) x ps sp := by
  obtain ⟨f, fd, h1, h2, h3⟩ := F.ex
  exact ⟨f, fd, h2, h1.kp, h3, h1.ok S len (hbody f)⟩
theorem Src.okX (F : Src K mg x st ps) (S : FnScope N ps (defScope st)) (len : ∀ vs H Q E, sp vs H Q E → vs.length = ps.length)
    (hbody : ∀ (f : Addr) (cdv : Value) (A : Around) (outer : List Env) (s : Shared) (H : Hp) (vs : List V) (Q : VK) (E : XK), Room k (A.deeper (envOfC x (defScope st) s.heap.objs.size f cdv)) → sp vs H Q E →
      ∃ t, PSs (cxOf (L2.CX P w) P w K mg base N x (defScope st) f cdv A outer s H E) (defBody st) t ∧ t { nx := fun _ H' => Q .non H', rt := Q } (start N vs) H) : Def P w K mg base (L2.CX P w) (k + 1) x ps sp := by
  obtain ⟨f, fd, h1, h2, h3⟩ := F.ex
  exact ⟨f, fd, h2, h1.kp, h3, h1.okX S len (hbody f)⟩
end
section
variable {X : Cx} {CX : CXT} {k : Nat} {ps : List Str} {sp : Sp} {x : Str} {p pos : Pos} {e : Expr} {es : List Expr} {t : TA}
theorem pe_def {E : XK} (D : Def X.prog X.w X.K X.mg X.base CX k x ps sp) (hr : Room k X.A) (hx : Passes CX X E) (ha : PA X (e :: es) t) (hg : Gl X x := by rfl)
    (hdb : (x == ("__debug__" : Str)) = false := by decide) (he : starEach (e :: es) X.env = (false, eval e X.env) :: starEach es X.env := by rfl) (hpl : (backTo pos (starEach es X.env)).any (·.1) = false := by rfl) :
    PE X (.Call (.Name x p) (e :: es) [] pos) (tCall sp [] E t) := by
  obtain ⟨f, fd, h1, h2, h3, h4⟩ := D.ex
  exact pe_call h4 hr hg h1 h2 h3 .nil hx ha hdb he hpl
theorem pe_def0 {E : XK} (D : Def X.prog X.w X.K X.mg X.base CX k x ps sp) (hr : Room k X.A) (hx : Passes CX X E) (hg : Gl X x := by rfl)
    (hdb : (x == ("__debug__" : Str)) = false := by decide) : PE X (.Call (.Name x p) [] [] pos) (tCall sp [] E tNil) := by
  obtain ⟨f, fd, h1, h2, h3, h4⟩ := D.ex
  exact pe_call0 h4 hr hg h1 h2 h3 .nil hx hdb
theorem pe_defS {E : St → XK} (D : Def X.prog X.w X.K X.mg X.base CX k x ps sp) (hr : Room k X.A) (hx : ∀ σ, PassesAt CX X σ (E σ)) (ha : PA X (e :: es) t) (hg : Gl X x := by rfl)
    (hdb : (x == ("__debug__" : Str)) = false := by decide) (he : starEach (e :: es) X.env = (false, eval e X.env) :: starEach es X.env := by rfl) (hpl : (backTo pos (starEach es X.env)).any (·.1) = false := by rfl) :
    PE X (.Call (.Name x p) (e :: es) [] pos) (tCallS sp E t) := by
  obtain ⟨f, fd, h1, h2, h3, h4⟩ := D.ex
  exact pe_callS h4 hr hg h1 h2 h3 hx ha hdb he hpl
theorem pe_glo {v : V} (h : Glo X.mg x v) (hg : Gl X x := by rfl) (hd : (x == ("__debug__" : Str)) = false := by decide) : PE X (.Name x p) (tC v) := by
  obtain ⟨u, h1, h2⟩ := h
  exact pe_glob hg h1 h2 hd
end
/-! the rules that speak of the written part, with its letter told -/
section
variable {X : Cx} {K : PySem.W.Frag}
def rLenQ (K : PySem.W.Frag) : List V → Hp → VK → Prop := fun xs H Q => ∃ p ys, xs = [.ref p] ∧ (SqL K H p ys ∨ SqT K H p ys) ∧ Q (.int ys.length) H
def rListQ (K : PySem.W.Frag) : List V → Hp → VK → Prop := fun xs H Q => ∃ p ys, xs = [.ref p] ∧ (SqL K H p ys ∨ SqT K H p ys) ∧ ∀ l, H l = none → Q (.ref l) (upd H l (.lst ys))
def rTupQ (K : PySem.W.Frag) : List V → Hp → VK → Prop := fun xs H Q => ∃ p ys, xs = [.ref p] ∧ ((SqL K H p ys ∧ ∀ l, H l = none → Q (.ref l) (upd H l (.tup ys))) ∨ (SqT K H p ys ∧ Q (.ref p) H))
theorem kix_list (h : X.K = K := by rfl) : IxR X (rIxL K) := h ▸ ix_list
theorem kix_tup (h : X.K = K := by rfl) : IxR X (rIxT K) := h ▸ ix_tup
theorem kix_seq (h : X.K = K := by rfl) : IxR X (rIx K) := h ▸ ix_seq
theorem ksl_list (h : X.K = K := by rfl) : SlR X (rSlL K) := h ▸ sl_list
theorem ksl_tup (h : X.K = K := by rfl) : SlR X (rSlT K) := h ▸ sl_tup
theorem kop_in (h : X.K = K := by rfl) : OpR X (compareOp .In) (rIn K false) := h ▸ op_in_seq
theorem kop_notIn (h : X.K = K := by rfl) : OpR X (compareOp .NotIn) (rIn K true) := h ▸ op_notIn_seq
theorem kop_eqD (hu : X.A.units + 64 < cLine) (h : X.K = K := by rfl) : OpR X (compareOp .Eq) (rEqD K) := h ▸ op_eqD hu
theorem kop_neD (hu : X.A.units + 64 < cLine) (h : X.K = K := by rfl) : OpR X (compareOp .NotEq) (rNeD K) := h ▸ op_neD hu
theorem kop_catT (h : X.K = K := by rfl) : OpR X (binaryOp .Add) (rCatT K) := h ▸ op_catT
theorem kcall_len (h : X.K = K := by rfl) : CallR X (.builtin "len") (rLenQ K) := h ▸ call_len_seq
theorem kcall_list (h : X.K = K := by rfl) : CallR X (.type "list") (rListQ K) := h ▸ call_list_of
theorem kcall_tuple (h : X.K = K := by rfl) : CallR X (.type "tuple") (rTupQ K) := h ▸ call_tuple_of
theorem kcr_sum (hc : X.calm = true) (h : X.K = K := by rfl) : CallR X (.builtin "sum") (rSum K) := h ▸ cr_sum hc
theorem kcr_any (hc : X.calm = true) (h : X.K = K := by rfl) : CallR X (.builtin "any") (rAny K) := h ▸ cr_any hc
theorem kcr_all (hc : X.calm = true) (h : X.K = K := by rfl) : CallR X (.builtin "all") (rAll K) := h ▸ cr_all hc
theorem kcall_isi (h : X.K = K := by rfl) : CallR X (.builtin "isinstance") (rIsi K) := h ▸ call_isi
theorem kpi_list {tg l : Expr} {tl : TE} (hl : PE X l tl) (h : X.K = K := by rfl) : PI X tg l (iList K tl) := h ▸ pi_list hl
theorem kpi_tup {tg l : Expr} {tl : TE} (hl : PE X l tl) (h : X.K = K := by rfl) : PI X tg l (iTup K tl) := h ▸ pi_tup hl
theorem kpe_fld {e : Expr} {f : Str} {pos : Pos} {ta : TE} (he : PE X e ta) (hb : attributeBase e f X.env (eval e X.env) = eval e X.env := by rfl) (h : X.K = K := by rfl) : PE X (.Attribute e f pos) (tFld K ta f) := h ▸ pe_fld he hb
end
/-- a comprehension without an if; with one -/
theorem yes_if {σ : St} {H : Hp} {A B : Hp → Prop} (h : A H) : tYes σ H (fun b H3 => if b = true then A H3 else B H3) := by
  show (if true = true then A H else B H)
  rw [if_pos rfl]
  exact h
/-! ### heaps -/
theorem same_upd {H : Hp} {p : Addr} {o : HO} (h : H p = none) : Same H (upd H p o) := fun b x e => by
  rw [upd_ne (ne_of_none e h)]
  exact e
theorem upd_twice {H : Hp} {b : Addr} {o o' : HO} : upd (upd H b o) b o' = upd H b o' := by
  funext a
  by_cases ha : a = b
  · rw [ha, upd_same, upd_same]
  · rw [upd_ne ha, upd_ne ha, upd_ne ha]
theorem upd_self' {H : Hp} {b : Addr} {o : HO} (h : H b = some o) : upd H b o = H := by
  funext a
  by_cases ha : a = b
  · rw [ha, upd_same, h]
  · rw [upd_ne ha]
/-- all that was tracked is as it was, but for what stands at b -/
def SameB (b : Addr) (H H' : Hp) : Prop := ∀ a o, a ≠ b → H a = some o → H' a = some o
theorem SameB.refl (b : Addr) (H : Hp) : SameB b H H := fun _ _ _ h => h
theorem SameB.trans {b : Addr} {H H1 H2 : Hp} (x : SameB b H H1) (y : SameB b H1 H2) : SameB b H H2 := fun a o n h => y a o n (x a o n h)
theorem Same.b {b : Addr} {H H' : Hp} (h : Same H H') : SameB b H H' := fun a o _ e => h a o e
theorem SameB.upd {b : Addr} {H H' : Hp} {o : HO} (h : SameB b H H') : SameB b H (upd H' b o) := fun a u n e => by
  rw [upd_ne n]
  exact h a u n e
theorem SameB.new {b p : Addr} {H H' : Hp} {o : HO} (h : SameB b H H') (n : H' p = none) : SameB b H (L2.upd H' p o) := fun a u hn e => by
  have := h a u hn e
  rw [upd_ne (ne_of_none this n)]
  exact this
/-- an object that H does not know may change -/
theorem SameB.mut {b p : Addr} {H H' : Hp} {o : HO} (h : SameB b H H') (n : H p = none) : SameB b H (L2.upd H' p o) := fun a u hn e => by
  rw [upd_ne (ne_of_none e n)]
  exact h a u hn e
theorem SameB.free {b l : Addr} {H H' : Hp} (e : SameB b H H') (hb : l ≠ b) (h : H' l = none) : H l = none := by
  cases q : H l with
  | none => rfl
  | some o =>
    rw [e l o hb q] at h
    cases h
theorem SameB.seq {K : PySem.W.Frag} {b : Addr} {H H' : Hp} {a : Addr} {xs : List V} (e : SameB b H H') (n : a ≠ b) (h : SqL K H a xs) : SqL K H' a xs := by
  rcases h with (h | ⟨o, h⟩) | h
  · exact .inl (.inl (e _ _ n h))
  · exact .inl (.inr ⟨o, e _ _ n h⟩)
  · exact .inr h
/-- an error of the class at C with these fields is what E wants, whatever was made meanwhile -/
def Rais (E : XK) (H : Hp) (C : Addr) (fs : List (Str × V)) : Prop := ∀ H' d, Same H H' → H d = none → H' d = some (.xd fs) → E (.ref C) (some d) H'
theorem Rais.go {E : XK} {H H' : Hp} {C d : Addr} {fs : List (Str × V)} (h : Rais E H C fs) (sm : Same H H') (n : H' d = none) : E (.ref C) (some d) (upd H' d (.xd fs)) :=
  h _ d (sm.trans (same_upd n)) (sm.free n) upd_same
/-- the law's box of draws stands at b, its script at l -/
structure Box (H : Hp) (b l : Addr) : Prop where
  ex : ∃ (ns : List Int) (i c r : Int), H b = some (.lst [.int i, .int c, .int r, .ref l]) ∧ H l = some (.lst (ns.map V.int)) ∧ 0 ≤ i ∧ l ≠ b
theorem Box.keep {H H' : Hp} {b l : Addr} (h : Box H b l) (e : Same H H') : Box H' b l := by
  obtain ⟨ns, i, c, r, h1, h2, h3, h4⟩ := h.ex
  exact ⟨ns, i, c, r, e _ _ h1, e _ _ h2, h3, h4⟩
theorem Box.neb {H : Hp} {b l p : Addr} (h : Box H b l) (n : H p = none) : p ≠ b := fun e => by
  obtain ⟨ns, i, c, r, h1, h2, h3, h4⟩ := h.ex
  rw [e, h1] at n
  cases n
theorem Box.nel {H : Hp} {b l p : Addr} (h : Box H b l) (n : H p = none) : p ≠ l := fun e => by
  obtain ⟨ns, i, c, r, h1, h2, h3, h4⟩ := h.ex
  rw [e, h2] at n
  cases n
theorem Box.mut {H : Hp} {b l p : Addr} {o : HO} (h : Box H b l) (nb : p ≠ b) (nl : p ≠ l) : Box (upd H p o) b l := by
  obtain ⟨ns, i, c, r, h1, h2, h3, h4⟩ := h.ex
  exact ⟨ns, i, c, r, by rw [upd_ne (Ne.symm nb)]; exact h1, by rw [upd_ne (Ne.symm nl)]; exact h2, h3, h4⟩
/-- from H to H' only draws were taken and new objects made -/
structure Bx (b l : Addr) (H H' : Hp) : Prop where
  sm : SameB b H H'
  b0 : Box H b l
  b1 : Box H' b l
theorem Box.bx {H : Hp} {b l : Addr} (h : Box H b l) : Bx b l H H := ⟨SameB.refl b H, h, h⟩
theorem Bx.trans {b l : Addr} {H H1 H2 : Hp} (x : Bx b l H H1) (y : Bx b l H1 H2) : Bx b l H H2 := ⟨x.sm.trans y.sm, x.b0, y.b1⟩
theorem Bx.same {b l : Addr} {H H1 H2 : Hp} (x : Bx b l H H1) (y : Same H1 H2) : Bx b l H H2 := ⟨x.sm.trans y.b, x.b0, x.b1.keep y⟩
theorem Bx.new {b l p : Addr} {H H' : Hp} {o : HO} (x : Bx b l H H') (n : H' p = none) : Bx b l H (upd H' p o) := x.same (same_upd n)
theorem Bx.mut {b l p : Addr} {H H' : Hp} {o : HO} (x : Bx b l H H') (n : H p = none) : Bx b l H (upd H' p o) := ⟨x.sm.mut n, x.b0, x.b1.mut (x.b0.neb n) (x.b0.nel n)⟩
theorem Bx.free {b l p : Addr} {H H' : Hp} (x : Bx b l H H') (n : H' p = none) : H p = none := x.sm.free (x.b1.neb n) n
theorem Bx.at {b l a : Addr} {H H' : Hp} {o : HO} (x : Bx b l H H') (h : H a = some o) (n : a ≠ b) : H' a = some o := x.sm a o n h
theorem Bx.seq {K : PySem.W.Frag} {b l : Addr} {H H' : Hp} {a : Addr} {xs : List V} (x : Bx b l H H') (n : a ≠ b) (h : SqL K H a xs) : SqL K H' a xs := x.sm.seq n h
/-- _law_next(box, many) -/
def spNext : Sp := fun vs H Q _ => ∃ (b l : Addr) (many : Int), vs = [.ref b, .int many] ∧ 0 < many ∧ many ≤ 10 ^ 40 ∧ Box H b l ∧ ∀ (n : Int) (H' : Hp), 0 ≤ n → n < many → Bx b l H H' → Q (.int n) H'
/-- _law_box(script) -/
def spBox (K : PySem.W.Frag) : Sp := fun vs H Q _ => ∃ (a : Addr) (ns : List Int), vs = [.ref a] ∧ SqL K H a (ns.map V.int) ∧ ns.length ≤ 63 ∧ ∀ (b l : Addr) (H' : Hp), H b = none → Same H H' → Box H' b l → Q (.ref b) H'
/-! ### plain data: no bools, no dicts -/
/-- a text of ASCII signs -/
def Asc (z : Str) : Prop := ∀ c ∈ z.cps.toList, c < 128
theorem Asc.ok {z : Str} (h : Asc z) : PyData.strOk z = true := by
  unfold PyData.strOk
  rw [← Array.all_toList, List.all_eq_true]
  intro c hc
  have := h c hc
  exact decide_eq_true (by omega)
theorem Asc.app {x y : Str} (hx : Asc x) (hy : Asc y) : Asc (x ++ y) := by
  intro c hc
  rw [Str.cps_append, Array.toList_append] at hc
  rcases List.mem_append.mp hc with h | h
  · exact hx c h
  · exact hy c h
theorem Asc.one {c : Nat} (h : c < 128) : Asc ⟨#[c]⟩ := by
  intro d hd
  have : d = c := by simpa using hd
  omega
theorem Asc.cut {z : Str} (h : Asc z) (lo hi : Option Int) : Asc (cutS z lo hi) := by
  intro c hc
  unfold cutS at hc
  exact h c (List.mem_of_mem_drop (List.mem_of_mem_take (by simpa using hc)))
mutual
def nb : PyData → Bool
  | .none => true
  | .int _ => true
  | .str x => PyData.strOk x
  | .list xs => nbAll xs
  | .tuple xs => nbAll xs
  | .bool _ => false
  | .dict _ => false
def nbAll : List PyData → Bool
  | [] => true
  | x :: xs => nb x && nbAll xs
end
mutual
theorem lay_nb : ∀ d : PyData, nb d = true → PyData.canLay0 d = true
  | .none, _ => by simp only [PyData.canLay0]
  | .int _, _ => by simp only [PyData.canLay0]
  | .str x, h => by simp only [nb] at h; simp only [PyData.canLay0, h]
  | .list xs, h => by simp only [nb] at h; simp only [PyData.canLay0]; exact lay_nbAll xs h
  | .tuple xs, h => by simp only [nb] at h; simp only [PyData.canLay0]; exact lay_nbAll xs h
  | .bool _, h => by simp only [nb] at h; cases h
  | .dict _, h => by simp only [nb] at h; cases h
theorem lay_nbAll : ∀ ds : List PyData, nbAll ds = true → PyData.canLayAll0 ds = true
  | [], _ => by simp only [PyData.canLayAll0]
  | x :: xs, h => by
    simp only [nbAll, Bool.and_eq_true] at h
    simp only [PyData.canLayAll0, lay_nb x h.1, lay_nbAll xs h.2, Bool.and_self]
end
mutual
theorem eqv_nb : ∀ d e : PyData, nb d = true → nb e = true → (PyData.eqv d e = true ↔ d = e)
  | .none, e, _, he => by cases e <;> simp [PyData.eqv]
  | .int i, e, _, he => by cases e <;> simp [PyData.eqv, nb] at he ⊢
  | .str x, e, _, he => by cases e <;> simp [PyData.eqv]
  | .list xs, e, hd, he => by
    cases e with
    | list ys =>
      simp only [nb] at hd he
      simp only [PyData.eqv, eqv_nbAll xs ys hd he, PyData.list.injEq]
    | _ => simp [PyData.eqv]
  | .tuple xs, e, hd, he => by
    cases e with
    | tuple ys =>
      simp only [nb] at hd he
      simp only [PyData.eqv, eqv_nbAll xs ys hd he, PyData.tuple.injEq]
    | _ => simp [PyData.eqv]
  | .bool _, _, h, _ => by simp only [nb] at h; cases h
  | .dict _, _, h, _ => by simp only [nb] at h; cases h
theorem eqv_nbAll : ∀ ds es : List PyData, nbAll ds = true → nbAll es = true → (PyData.eqvAll ds es = true ↔ ds = es)
  | [], [], _, _ => by simp [PyData.eqvAll]
  | [], _ :: _, _, _ => by simp [PyData.eqvAll]
  | _ :: _, [], _, _ => by simp [PyData.eqvAll]
  | x :: xs, y :: ys, hd, he => by
    simp only [nbAll, Bool.and_eq_true] at hd he
    simp only [PyData.eqvAll, Bool.and_eq_true, eqv_nb x y hd.1 he.1, eqv_nbAll xs ys hd.2 he.2, List.cons.injEq]
end
theorem eqv_dec {d e : PyData} (hd : nb d = true) (he : nb e = true) : (PyData.eqv d e = true) = (d = e) := propext (eqv_nb d e hd he)
theorem eqv_self {d : PyData} (hd : nb d = true) : PyData.eqv d d = true := (eqv_nb d d hd hd).mpr rfl
theorem eqv_ne {d e : PyData} (hd : nb d = true) (he : nb e = true) (h : d ≠ e) : PyData.eqv d e = false := by
  cases q : PyData.eqv d e with
  | false => rfl
  | true => exact absurd ((eqv_nb d e hd he).mp q) h
theorem nbAll_of : ∀ {ds : List PyData}, (∀ d ∈ ds, nb d = true) → nbAll ds = true
  | [], _ => rfl
  | d :: ds, h => by
    show (nb d && nbAll ds) = true
    rw [h d (List.mem_cons_self ..), nbAll_of fun x hx => h x (List.mem_cons_of_mem _ hx)]
    rfl
theorem depthAll_le {n : Nat} : ∀ {ds : List PyData}, (∀ d ∈ ds, d.depth ≤ n) → PyData.depthAll ds ≤ n
  | [], _ => by simp [PyData.depthAll]
  | d :: ds, h => by
    simp only [PyData.depthAll]
    exact Nat.max_le.mpr ⟨h d (List.mem_cons_self ..), depthAll_le fun x hx => h x (List.mem_cons_of_mem _ hx)⟩
theorem shaped_of {d : PyData} (h : nb d = true) (hd : d.depth ≤ 64) : SeqAt.shaped d = true := by
  unfold SeqAt.shaped
  rw [lay_nb d h, decide_eq_true hd]
  rfl
/-- a list of texts as data -/
abbrev dStrs (l : List Str) : PyData := .list (l.map .str)
theorem dpall_strs {K : PySem.W.Frag} {H : Hp} : ∀ l : List Str, DpAll K H (l.map V.str) (l.map PyData.str)
  | [] => .nil
  | _ :: l => .cons (.str _) (dpall_strs l)
theorem nb_strs {l : List Str} (h : ∀ z ∈ l, Asc z) : nbAll (l.map PyData.str) = true := nbAll_of fun d hd => by
  obtain ⟨z, hz, rfl⟩ := List.mem_map.mp hd
  show PyData.strOk z = true
  exact (h z hz).ok
theorem depth_strs (l : List Str) : PyData.depthAll (l.map PyData.str) ≤ 0 := depthAll_le fun d hd => by
  obtain ⟨z, hz, rfl⟩ := List.mem_map.mp hd
  simp [PyData.depth]
/-! ### lists of texts -/
theorem inV_strs (n : Str) (ws : List Str) : inV (.str n) (ws.map V.str) = decide (n ∈ ws) := by
  unfold inV
  rw [Bool.eq_iff_iff, List.any_eq_true, decide_eq_true_iff]
  constructor
  · rintro ⟨y, hy, e⟩
    obtain ⟨z, hz, rfl⟩ := List.mem_map.mp hy
    have e : z = n := by simpa [eqV] using e
    exact e ▸ hz
  · intro h
    exact ⟨.str n, List.mem_map_of_mem h, by simp [eqV]⟩
theorem flat_strs (ws : List Str) : (ws.map V.str).all flatV = true := by
  rw [List.all_eq_true]
  intro y hy
  obtain ⟨z, hz, rfl⟩ := List.mem_map.mp hy
  rfl
theorem flat_ints (ws : List Int) : (ws.map V.int).all flatV = true := by
  rw [List.all_eq_true]
  intro y hy
  obtain ⟨z, hz, rfl⟩ := List.mem_map.mp hy
  rfl
/-- a list or a tuple -/
def Sq (K : PySem.W.Frag) (H : Hp) (a : Addr) (xs : List V) : Prop := SqL K H a xs ∨ SqT K H a xs
theorem Same.seqT {K : PySem.W.Frag} {H H' : Hp} {a : Addr} {xs : List V} (e : Same H H') (h : SqT K H a xs) : SqT K H' a xs := by
  rcases h with (h | ⟨o, h⟩) | h
  · exact .inl (.inl (e _ _ h))
  · exact .inl (.inr ⟨o, e _ _ h⟩)
  · exact .inr h
theorem Same.sq {K : PySem.W.Frag} {H H' : Hp} {a : Addr} {xs : List V} (e : Same H H') (h : Sq K H a xs) : Sq K H' a xs := h.elim (fun h => .inl (e.seq h)) (fun h => .inr (e.seqT h))
theorem map_get {α : Type} {f : α → V} {l : List α} {i : Nat} {x : V} (h : (l.map f)[i]? = some x) : ∃ z, l[i]? = some z ∧ x = f z := by
  rw [List.getElem?_map] at h
  cases e : l[i]? with
  | none => rw [e] at h; cases h
  | some z => rw [e] at h; exact ⟨z, rfl, (Option.some.inj h).symm⟩
theorem take_more {α : Type} {l : List α} {i : Nat} {x : α} (h : l[i]? = some x) : l.take (i + 1) = l.take i ++ [x] := by
  rw [List.take_add_one, h]
  rfl
theorem get_mem {α : Type} {l : List α} {i : Nat} {x : α} (h : l[i]? = some x) : x ∈ l := List.mem_of_getElem? h
theorem cutV_take (xs : List V) (n : Nat) : cutV xs none (some (n : Int)) = xs.take n := by
  unfold cutV
  rw [HT.sIx_none, HT.sIx_nat]
  show List.take (min n xs.length - 0) (List.drop 0 xs) = _
  rw [List.drop_zero, Nat.sub_zero, Nat.min_comm]
  by_cases h : n ≤ xs.length
  · rw [Nat.min_eq_right h]
  · rw [Nat.min_eq_left (by omega), List.take_length, List.take_of_length_le (by omega)]
theorem cutV_drop (xs : List V) (n : Nat) : cutV xs (some (n : Int)) none = xs.drop n := by
  unfold cutV
  rw [HT.sIx_none, HT.sIx_nat]
  by_cases h : n ≤ xs.length
  · rw [Nat.min_eq_left h]
    exact List.take_of_length_le (by rw [List.length_drop]; exact Nat.le_refl _)
  · rw [Nat.min_eq_right (by omega), List.drop_length, List.drop_of_length_le (by omega), List.take_nil]
/-! ### data stay as they are -/
section
variable {K : PySem.W.Frag} {H H' : Hp}
mutual
theorem Dp.keep (e : Same H H') : ∀ (d : PyData) (v : V), Dp K H v d → Dp K H' v d
  | .none, _, h => by cases h; exact .non
  | .bool _, _, h => by cases h; exact .bl _
  | .int _, _, h => by cases h; exact .int _
  | .str _, _, h => by cases h; exact .str _
  | .list ds, _, h => by
    cases h with
    | lst hs ha => exact .lst (e.seq hs) (DpAll.keep e ds _ ha)
  | .tuple ds, _, h => by
    cases h with
    | tup hs ha => exact .tup (e.seqT hs) (DpAll.keep e ds _ ha)
  | .dict _, _, h => by cases h
theorem DpAll.keep (e : Same H H') : ∀ (ds : List PyData) (vs : List V), DpAll K H vs ds → DpAll K H' vs ds
  | [], _, h => by cases h; exact .nil
  | d :: ds, _, h => by
    cases h with
    | cons h1 h2 => exact .cons (Dp.keep e d _ h1) (DpAll.keep e ds _ h2)
end
end
/-! ### words -/
/-! what a word is, by its code points -/
def LETTERS : Str := "abcdefghijklmnopqrstuvwxyz"
def DIGITS : Str := "0123456789"
def okc (c : Nat) : Bool := decide (c ∈ LETTERS.cps.toList) || decide (c ∈ DIGITS.cps.toList)
def wd (l : List Nat) : Bool := decide (1 ≤ l.length ∧ l.length ≤ 12) && (decide (l.headD 0 ∈ LETTERS.cps.toList) && l.all okc)
theorem len_cps (z : Str) : z.length = z.cps.toList.length := rfl
theorem all_take {α : Type} {p : α → Bool} {l : List α} {i : Nat} {c : α} (h : l[i]? = some c) : (l.take (i + 1)).map p = (l.take i).map p ++ [p c] := by
  rw [List.take_add_one, h, List.map_append]
  rfl
theorem all_id {α : Type} (p : α → Bool) (l : List α) : (l.map p).all id = l.all p := by
  rw [List.all_map]
  rfl
theorem get_lt {l : List Nat} {n : Int} (h0 : 0 ≤ n) (h1 : n < l.length) (h2 : l.all (fun c => decide (c < 128)) = true) : ∃ c, atI l n = some c ∧ c < 128 := by
  obtain ⟨j, rfl⟩ : ∃ j : Nat, n = j := ⟨n.toNat, by omega⟩
  have hj : j < l.length := by omega
  refine ⟨l[j], atI_nat (List.getElem?_eq_getElem hj), ?_⟩
  rw [List.all_eq_true] at h2
  exact of_decide_eq_true (h2 _ (List.getElem_mem hj))
theorem wd_cons {c : Nat} {r : List Nat} (hc : c ∈ LETTERS.cps.toList) (hr : ∀ d ∈ r, okc d = true) (hl : r.length ≤ 11) : wd (c :: r) = true := by
  unfold wd
  rw [decide_eq_true (show 1 ≤ (c :: r).length ∧ (c :: r).length ≤ 12 by rw [List.length_cons]; omega), Bool.true_and, List.headD_cons, decide_eq_true hc, Bool.true_and, List.all_cons, Bool.and_eq_true]
  refine ⟨?_, List.all_eq_true.mpr hr⟩
  unfold okc
  rw [decide_eq_true hc, Bool.true_or]
theorem wd_inv {l : List Nat} (h : wd l = true) : ∃ c r, l = c :: r ∧ c ∈ LETTERS.cps.toList ∧ (∀ d ∈ l, okc d = true) ∧ l.length ≤ 12 := by
  unfold wd at h
  rw [Bool.and_eq_true, Bool.and_eq_true] at h
  obtain ⟨h1, h2, h3⟩ := h
  have h1 := of_decide_eq_true h1
  have h2 := of_decide_eq_true h2
  cases l with
  | nil => exact absurd h1.1 (by decide)
  | cons c r => exact ⟨c, r, rfl, h2, List.all_eq_true.mp h3, h1.2⟩
theorem okc_lt {c : Nat} (h : okc c = true) : c < 128 := by
  unfold okc at h
  rw [Bool.or_eq_true, decide_eq_true_iff, decide_eq_true_iff] at h
  rcases h with h | h
  · exact of_decide_eq_true (List.all_eq_true.mp (show LETTERS.cps.toList.all (fun c => decide (c < 128)) = true by decide) c h)
  · exact of_decide_eq_true (List.all_eq_true.mp (show DIGITS.cps.toList.all (fun c => decide (c < 128)) = true by decide) c h)
/-- a text that is a word -/
def Wd (z : Str) : Prop := wd z.cps.toList = true
theorem Wd.asc {z : Str} (h : Wd z) : Asc z := fun c hc => by
  obtain ⟨_, _, _, _, ho, _⟩ := wd_inv h
  exact okc_lt (ho c hc)
theorem Wd.len {z : Str} (h : Wd z) : z.length ≤ 12 := by
  obtain ⟨_, _, _, _, _, hl⟩ := wd_inv h
  exact hl
/-! ### thirty spare words -/
def spare (z : Str) (k : Nat) : Str := cutS z none (some 9) ++ "x" ++ (toString (k : Int) : Str)
theorem cut_take (z : Str) (n : Nat) : (cutS z none (some (n : Int))).cps.toList = z.cps.toList.take n := by
  unfold cutS
  rw [HT.sIx_none, HT.sIx_nat]
  show (List.take (min n z.length - 0) (List.drop 0 z.cps.toList)).toArray.toList = _
  rw [List.drop_zero, Nat.sub_zero]
  show List.take (min n z.length) z.cps.toList = _
  rw [len_cps, Nat.min_comm]
  by_cases h : n ≤ z.cps.toList.length
  · rw [Nat.min_eq_right h]
  · rw [Nat.min_eq_left (by omega), List.take_length, List.take_of_length_le (by omega)]
theorem spare_cps (z : Str) (k : Nat) : (spare z k).cps.toList = z.cps.toList.take 9 ++ ([120] ++ (toString (k : Int) : Str).cps.toList) := by
  unfold spare
  rw [Str.cps_append, Array.toList_append, Str.cps_append, Array.toList_append, show (9 : Int) = ((9 : Nat) : Int) from rfl, cut_take, List.append_assoc]
  rfl
theorem digs30 : (List.range 30).all (fun k => decide ((toString (k : Int) : Str).cps.toList.length ≤ 2) && (toString (k : Int) : Str).cps.toList.all fun c => decide (c ∈ DIGITS.cps.toList)) = true := by decide +kernel
theorem digs_inj : (List.range 30).all (fun k => (List.range 30).all fun j => decide ((toString (k : Int) : Str).cps.toList = (toString (j : Int) : Str).cps.toList → k = j)) = true := by decide +kernel
theorem spare_wd {z : Str} (h : Wd z) {k : Nat} (hk : k < 30) : Wd (spare z k) := by
  obtain ⟨c, r, e, hc, ho, hl⟩ := wd_inv h
  have hd := List.all_eq_true.mp digs30 k (List.mem_range.mpr hk)
  rw [Bool.and_eq_true, decide_eq_true_iff, List.all_eq_true] at hd
  show wd (spare z k).cps.toList = true
  rw [spare_cps, e, List.take_succ_cons, List.cons_append]
  refine wd_cons hc (fun d hd' => ?_) ?_
  · rcases List.mem_append.mp hd' with h1 | h1
    · exact ho d (by rw [e]; exact List.mem_cons_of_mem _ (List.mem_of_mem_take h1))
    · rcases List.mem_append.mp h1 with h2 | h2
      · rw [List.mem_singleton.mp h2]
        decide
      · have := of_decide_eq_true (hd.2 d h2)
        unfold okc
        rw [decide_eq_true this, Bool.or_true]
  · rw [List.length_append, List.length_take, List.length_append]
    have := hd.1
    show min 8 r.length + (1 + _) ≤ 11
    omega
theorem str_ext {x y : Str} (h : x.cps.toList = y.cps.toList) : x = y := by
  obtain ⟨⟨a⟩⟩ := x
  obtain ⟨⟨b⟩⟩ := y
  have : a = b := h
  rw [this]
theorem spare_inj {z : Str} {k j : Nat} (hk : k < 30) (hj : j < 30) (h : spare z k = spare z j) : k = j := by
  have e : (spare z k).cps.toList = (spare z j).cps.toList := by rw [h]
  rw [spare_cps, spare_cps] at e
  have e2 := List.append_cancel_left (List.append_cancel_left e)
  have d := List.all_eq_true.mp (List.all_eq_true.mp digs_inj k (List.mem_range.mpr hk)) j (List.mem_range.mpr hj)
  exact of_decide_eq_true d e2
theorem nodup_sub {α : Type} [DecidableEq α] : ∀ {l m : List α}, l.Nodup → (∀ x ∈ l, x ∈ m) → l.length ≤ m.length
  | [], _, _, _ => Nat.zero_le _
  | a :: l, m, hn, hs => by
    obtain ⟨ha, hn⟩ := List.nodup_cons.mp hn
    have h1 : a ∈ m := hs a (List.mem_cons_self ..)
    have h2 : l.length ≤ (m.erase a).length := nodup_sub hn fun x hx => by
      have ne : x ≠ a := fun e => ha (e ▸ hx)
      exact (List.mem_erase_of_ne ne).mpr (hs x (List.mem_cons_of_mem _ hx))
    rw [List.length_erase_of_mem h1] at h2
    have : 0 < m.length := List.length_pos_of_mem h1
    rw [List.length_cons]
    omega
def spares (z : Str) : List Str := (List.range 30).map (spare z)
theorem spares_nodup (z : Str) : (spares z).Nodup := by
  unfold spares
  rw [List.nodup_iff_pairwise_ne, List.pairwise_map]
  refine List.Pairwise.imp_of_mem (R := fun a b => a ≠ b) (fun {a b} ha hb hab e => hab ?_) List.nodup_range
  exact spare_inj (List.mem_range.mp ha) (List.mem_range.mp hb) e
theorem spare_some {z : Str} {ws : List Str} (h : ws.length < 30) : ∃ y r, (spares z).filter (fun o => decide (o ∉ ws)) = y :: r := by
  cases e : (spares z).filter (fun o => decide (o ∉ ws)) with
  | cons y r => exact ⟨y, r, rfl⟩
  | nil =>
    have h1 := List.filter_eq_nil_iff.mp e
    have h2 : (spares z).length ≤ ws.length := nodup_sub (spares_nodup z) fun x hx => by
      have := h1 x hx
      simpa using this
    unfold spares at h2
    rw [List.length_map, List.length_range] at h2
    omega
theorem spares_wd {z y : Str} (h : Wd z) (hy : y ∈ spares z) : Wd y := by
  obtain ⟨k, hk, rfl⟩ := List.mem_map.mp hy
  exact spare_wd h (List.mem_range.mp hk)
/-! ### a list of names -/
/-- the first name at fault: true: not known; false: it occurred before -/
def chk (ks : List Str) : List Str → List Str → Option (Bool × Str)
  | _, [] => none
  | seen, n :: r => if n ∈ ks then (if n ∈ seen then some (false, n) else chk ks (seen ++ [n]) r) else some (true, n)
theorem chk_cons (ks seen : List Str) (n : Str) (r : List Str) : chk ks seen (n :: r) = if n ∈ ks then (if n ∈ seen then some (false, n) else chk ks (seen ++ [n]) r) else some (true, n) := rfl
theorem chk_none {ks : List Str} : ∀ {ws seen : List Str}, chk ks seen ws = none ↔ ws.Nodup ∧ (∀ w ∈ ws, w ∈ ks ∧ w ∉ seen)
  | [], seen => by simp [chk]
  | n :: r, seen => by
    rw [chk_cons]
    by_cases h1 : n ∈ ks
    · rw [if_pos h1]
      by_cases h2 : n ∈ seen
      · rw [if_pos h2]
        constructor
        · intro h; cases h
        · intro h; exact absurd h2 (h.2 n (List.mem_cons_self ..)).2
      · rw [if_neg h2, chk_none, List.nodup_cons]
        constructor
        · rintro ⟨a, b⟩
          refine ⟨⟨fun hn => ?_, a⟩, fun w hw => ?_⟩
          · exact (b n hn).2 (List.mem_append_right _ (List.mem_singleton.mpr rfl))
          · rcases List.mem_cons.mp hw with rfl | hw
            · exact ⟨h1, h2⟩
            · exact ⟨(b w hw).1, fun h => (b w hw).2 (List.mem_append_left _ h)⟩
        · rintro ⟨⟨a, b⟩, c⟩
          refine ⟨b, fun w hw => ⟨(c w (List.mem_cons_of_mem _ hw)).1, fun h => ?_⟩⟩
          rcases List.mem_append.mp h with h | h
          · exact (c w (List.mem_cons_of_mem _ hw)).2 h
          · rw [List.mem_singleton.mp h] at hw
            exact a hw
    · rw [if_neg h1]
      constructor
      · intro h; cases h
      · intro h; exact absurd (h.2 n (List.mem_cons_self ..)).1 h1
theorem chk_mem {ks : List Str} {b : Bool} {n : Str} : ∀ {ws seen : List Str}, chk ks seen ws = some (b, n) → n ∈ ws
  | [], _, h => by cases h
  | m :: r, seen, h => by
    rw [chk_cons] at h
    by_cases h1 : m ∈ ks
    · rw [if_pos h1] at h
      by_cases h2 : m ∈ seen
      · rw [if_pos h2] at h
        cases h
        exact List.mem_cons_self ..
      · rw [if_neg h2] at h
        exact List.mem_cons_of_mem _ (chk_mem h)
    · rw [if_neg h1] at h
      cases h
      exact List.mem_cons_self ..
/-! ### from the written part to the facts above -/
section
variable {P : Program} {K : PySem.W.Frag} {h : Heap} {mg : Str → Option Value}
theorem src_mk {x : Str} {st : Stmt} {ps : List Str} {f : Addr} {oc : Value} {od an : Option Addr} {osl : Array (Option Value)} {kV doc pm cdv ct : Value} (X : K.In h) (G : h.Ns mainGlobals mg)
    (a : PySem.W.nsIn K mainGlobals x = some (some (.ref f))) (l : K.lookup f = some ⟨oc, od, .func (PySem.W.fnOf x x (defArgs st) (defBody st) (defScope st) .none kV doc pm an cdv ct), osl⟩)
    (c : PySem.W.codeIn K cdv x = true) (k : PySem.W.keepIn K (.ref f) = true)
    (hb : ∀ (kV doc pm : Value) (an : Option Addr) (cdv ct : Value) (us : List Value), us.length = ps.length → bindArgs (PySem.W.fnOf x x (defArgs st) (defBody st) (defScope st) .none kV doc pm an cdv ct) ⟨us, []⟩ = pure (ps.zip us)) : Src K mg x st ps :=
  ⟨f, _, fun_mk l c k, PySem.W.mg_of X G a, (fun_mk (st := st) l c k).binds hb⟩
theorem glo_str {x z : Str} {t : Tok} (X : K.In h) (G : h.Ns mainGlobals mg) (a : PySem.W.nsIn K mainGlobals x = some (some (.str z t))) : Glo mg x (.str z) := ⟨_, PySem.W.mg_of X G a, t, rfl⟩
theorem glo_int {x : Str} {i : Int} {t : Tok} (X : K.In h) (G : h.Ns mainGlobals mg) (a : PySem.W.nsIn K mainGlobals x = some (some (.int i t))) : Glo mg x (.int i) := ⟨_, PySem.W.mg_of X G a, t, rfl⟩
theorem glo_ref {x : Str} {a : Addr} (X : K.In h) (G : h.Ns mainGlobals mg) (e : PySem.W.nsIn K mainGlobals x = some (some (.ref a))) : Glo mg x (.ref a) := ⟨_, PySem.W.mg_of X G e, rfl⟩
theorem err_mk {cn qual : Str} {tm : Bool} {C fI : Addr} {fs : List Str} {st : Stmt} {nm q : Str} {N : Addr} {bs bm : List Value} {sn : List Str} {sub : List Value} {ab : Bool} {col : Option Bool} {dd : Option Addr} {m0 m1 m2 m3 m5 : Option Value}
    {oc : Value} {od an : Option Addr} {osl : Array (Option Value)} {kV doc pm ct : Value} {cda cc : Addr} {ccl cl : Value} {cdd cld : Option Addr} {ccs csl : Array (Option Value)} {vs : Array Value} {file : Str} {tf : Tok} {msg : Expr} {p1 p2 p3 p4 p5 : Pos} {fp : List FP} {ar : Arg}
    (X : K.In h) (G : h.Ns mainGlobals mg) (aC : PySem.W.nsIn K mainGlobals cn = some (some (.ref C))) (aS : PySem.W.nsIn K mainGlobals "super" = some none)
    (xL : K.lookup C = some (excClassObj nm q C N bs bm true sn sub ab col dd m0 m1 m2 m3 m5 "ValueError.__new__")) (hbm : PySem.HandSPX.refsVE bm = true)
    (sa : PySem.W.findIn K (.ref C) "__setattr__" = some (some (.builtin "object.__setattr__"))) (ga : PySem.W.findIn K (.ref C) "__getattribute__" = some (some (.builtin "BaseException.__getattribute__"))) (gg : PySem.W.findIn K (.ref C) "__getattr__" = some none)
    (noN : ∀ f ∈ fs, PySem.W.findIn K (.ref C) f = some none)
    (iC : PySem.W.findIn K (.ref C) "__init__" = some (some (.ref fI))) (tI : PySem.W.typeIn K (.ref fI) = some (.type "function")) (kC : PySem.W.keepIn K (.ref C) = true)
    (exC : PySem.W.subIn K (.ref C) (.type "BaseException") = some true) (veC : PySem.W.subIn K (.ref C) (.type "ValueError") = some true) (tyC : PySem.W.typeIn K (.ref C) = some (.type "type")) (hdC : PySem.W.hasDictIn K C = true)
    (sup : PySem.W.ks_superIn K C C "__init__" = some (some (.builtin "ValueError.__init__"))) (mro : PySem.W.mroIn K C (.ref C) = some true) (su : PySem.W.subIn K (.ref C) (.ref C) = some true)
    (ca : PySem.W.findIn K (.ref C) "__class__" = some (some (.builtin "object.__class__"))) (cg : PySem.W.specialIn K (.builtin "object.__class__") "__get__" = some (some (.builtin "getset_descriptor.__get__"))) (ct' : PySem.W.takesIn K (.builtin "object.__class__") = some true)
    (mo : PySem.W.mroIn K C (.type "object") = some true) (opq : PySem.W.nsIn K cStatics "thirdparty.any" = some none)
    (top : (P.main.scope.names.lookup ("super" : Str)).isSome = false)
    (l : K.lookup fI = some ⟨oc, od, .func (PySem.W.ksFn "__init__" qual (defArgs st) (defBody st) (defScope st) .none kV doc pm an (.ref cda) ct cc), osl⟩) (c : PySem.W.codeIn K (.ref cda) qual = true)
    (lc : K.lookup cda = some ⟨ccl, cdd, .fields vs, ccs⟩) (hv2 : vs[2]? = some (.str file tf)) (hfile : ((P.main.file : Str) == file) = true) (lcc : K.lookup cc = some ⟨cl, cld, .cell (some (.ref C)), csl⟩)
    (hbody : defBody st = stS msg p1 p2 p3 p4 p5 :: fp.map stF) (har : ((defArgs st).posonlyargs ++ (defArgs st).args).head? = some ar) (hself : ar.arg = "self") (hfp : fp.map (·.1) = fs) (hpos : (p3.endLine == p4.line) = true)
    (h1 : (defScope st).names.lookup ("super" : Str) = some .globalImplicit) (h2 : (defScope st).names.lookup ("__class__" : Str) = some .free) (h3 : (defScope st).names.lookup ("self" : Str) = some .local) (h4 : ∀ f ∈ fs, (defScope st).names.lookup f = some .local) (h5 : ∀ f ∈ fs, (f == ("__debug__" : Str)) = false) (h6 : ∀ y ∈ (defScope st).names, y.2 ≠ .cell)
    (h7 : (defScope st).kind = .function) (h8 : (defScope st).isGenerator = false) (h9 : (defScope st).isCoroutine = false)
    (hbind : ∀ (kV doc pm : Value) (an : Option Addr) (cda : Addr) (ct : Value) (cc : Addr) (s : Shared) (x : Value) (us : List Value), us.length = fs.length → BindsTo s (PySem.W.ksFn "__init__" qual (defArgs st) (defBody st) (defScope st) .none kV doc pm an (.ref cda) ct cc) ⟨x :: us, []⟩ (("self", x) :: fs.zip us))
    (hlook : ∀ (x : Value) (us : List Value), us.length = fs.length → ((("self" : Str), x) :: fs.zip us).reverse.lookup ("self" : Str) = some x ∧ Paired (fun f u => ((("self" : Str), x) :: fs.zip us).reverse.lookup f = some u) fs us)
    (hmsg : (tm = false ∧ ∃ (z : Str) (i : Nat) (p : Pos), msg = .Constant (.str z) i p) ∨ tm = true ∧ ∃ (z f : Str) (i : Nat) (p p' p'' : Pos), msg = .BinOp (.Constant (.str z) i p) .Add (.Name f p') p'' ∧ z.length ≤ 100 ∧ fs.head? = some f) :
    ErrTxt P K mg tm cn C fI fs where
  cls := ⟨nm, q, N, bs, bm, sn, sub, ab, col, dd, m0, m1, m2, m3, m5, xL, hbm⟩
  sa := sa
  noN := noN
  gC := PySem.W.mg_of X G aC
  ga := ga
  gg := gg
  iC := iC
  tC := tI
  kC := kC
  exC := exC
  veC := veC
  tyC := tyC
  hdC := hdC
  sup := sup
  mro := mro
  sub := su
  ca := ca
  cg := cg
  ct := ct'
  mo := mo
  opq := opq
  msup := PySem.W.mg_none_of X G aS
  top := top
  fn := by
    rw [hbody] at l
    refine ⟨oc, od, qual, defArgs st, defScope st, msg, p1, p2, p3, p4, p5, fp, .none, kV, doc, pm, an, cda, cc, ct, osl, ar, ccl, cl, cdd, cld, ccs, csl, vs, file, tf, l, c, har, hself, lc, hv2, hfile, lcc, hfp, hpos, ⟨h1, h2, h3, h4, h5, h6⟩, ⟨h7, h8, h9⟩, ?_, hlook, hmsg⟩
    intro s x us hl
    have := hbind kV doc pm an cda ct cc s x us hl
    rw [hbody] at this
    exact this
end
end L2

set_option Elab.async false
set_option linter.all false
set_option maxRecDepth 100000
set_option maxHeartbeats 4000000
/-! Methods and new instances of own classes by their names; what is raised is wished at the slots. -/
namespace L2
open PySem PySem.Spec PyProof.Rows PySem.HErr
/-- a method of the text stands in its class -/
structure SrcM (K : PySem.W.Frag) (C : Addr) (m qual : Str) (st : Stmt) (ps : List Str) : Prop where
  ex : ∃ f fd, Fun K m qual st f fd ∧ Meth K C m f ∧ Binds K fd ps []
/-- the method m of the class at C keeps the promise sp -/
structure DefM (P : Program) (w : World) (K : PySem.W.Frag) (mg : Str → Option Value) (base : Heap) (CX : CXT) (k : Nat) (C : Addr) (m : Str) (ps : List Str) (sp : Sp) : Prop where
  ex : ∃ f fd, Meth K C m f ∧ Binds K fd ps [] ∧ FnOk P w K mg base CX k f fd ps sp
/-- __init__ of the class at C stands in it; ds: the values of defaults that are left out -/
structure SrcI (K : PySem.W.Frag) (C : Addr) (qual : Str) (st : Stmt) (ps : List Str) : Prop where
  ex : ∃ f fd, Fun K "__init__" qual st f fd ∧ Mk K C f ∧ Binds K fd ps []
structure DefI (P : Program) (w : World) (K : PySem.W.Frag) (mg : Str → Option Value) (base : Heap) (CX : CXT) (k : Nat) (C : Addr) (ps : List Str) (sp : Sp) : Prop where
  ex : ∃ f fd, Mk K C f ∧ Binds K fd ps [] ∧ FnOk P w K mg base CX k f fd ps sp
section
variable {P : Program} {w : World} {K : PySem.W.Frag} {mg : Str → Option Value} {base : Heap} {CX : CXT} {m qual : Str} {C : Addr} {st : Stmt} {N ps : List Str} {k : Nat} {sp : Sp}
theorem DefM.mono {j : Nat} (D : DefM P w K mg base CX j C m ps sp) (h : j ≤ k) : DefM P w K mg base CX k C m ps sp := by
  obtain ⟨f, fd, h1, h2, h3⟩ := D.ex
  exact ⟨f, fd, h1, h2, h3.mono h⟩
theorem DefI.mono {j : Nat} (D : DefI P w K mg base CX j C ps sp) (h : j ≤ k) : DefI P w K mg base CX k C ps sp := by
  obtain ⟨f, fd, h1, h2, h3⟩ := D.ex
  exact ⟨f, fd, h1, h2, h3.mono h⟩
theorem SrcM.ok (F : SrcM K C m qual st ps) (S : FnScope N ps (defScope st)) (len : ∀ vs H Q E, sp vs H Q E → vs.length = ps.length)
    (hbody : ∀ (f : Addr) (cdv : Value) (A : Around) (outer : List Env) (s : Shared) (H : Hp) (vs : List V) (Q : VK) (E : XK), Room k (A.deeper (envOfC qual (defScope st) s.heap.objs.size f cdv)) → sp vs H Q E →
      ∃ t, PSs (cxOf CX0 P w K mg base N qual (defScope st) f cdv A outer s H E).nox (defBody st) t ∧ t { nx := fun _ H' => Q .non H', rt := Q } (start N vs) H) : DefM P w K mg base CX0 (k + 1) C m ps sp := by
  obtain ⟨f, fd, h1, h2, h3⟩ := F.ex
  exact ⟨f, fd, h2, h3, h1.ok S len (hbody f)⟩
theorem SrcM.okX (F : SrcM K C m qual st ps) (S : FnScope N ps (defScope st)) (len : ∀ vs H Q E, sp vs H Q E → vs.length = ps.length)
    (hbody : ∀ (f : Addr) (cdv : Value) (A : Around) (outer : List Env) (s : Shared) (H : Hp) (vs : List V) (Q : VK) (E : XK), Room k (A.deeper (envOfC qual (defScope st) s.heap.objs.size f cdv)) → sp vs H Q E →
      ∃ t, PSs (cxOf (L2.CX P w) P w K mg base N qual (defScope st) f cdv A outer s H E) (defBody st) t ∧ t { nx := fun _ H' => Q .non H', rt := Q } (start N vs) H) : DefM P w K mg base (L2.CX P w) (k + 1) C m ps sp := by
  obtain ⟨f, fd, h1, h2, h3⟩ := F.ex
  exact ⟨f, fd, h2, h3, h1.okX S len (hbody f)⟩
theorem SrcI.okX (F : SrcI K C qual st ps) (S : FnScope N ps (defScope st)) (len : ∀ vs H Q E, sp vs H Q E → vs.length = ps.length)
    (hbody : ∀ (f : Addr) (cdv : Value) (A : Around) (outer : List Env) (s : Shared) (H : Hp) (vs : List V) (Q : VK) (E : XK), Room k (A.deeper (envOfC qual (defScope st) s.heap.objs.size f cdv)) → sp vs H Q E →
      ∃ t, PSs (cxOf (L2.CX P w) P w K mg base N qual (defScope st) f cdv A outer s H E) (defBody st) t ∧ t { nx := fun _ H' => Q .non H', rt := Q } (start N vs) H) : DefI P w K mg base (L2.CX P w) (k + 1) C ps sp := by
  obtain ⟨f, fd, h1, h2, h3⟩ := F.ex
  exact ⟨f, fd, h2, h3, h1.okX S len (hbody f)⟩
theorem SrcI.ok (F : SrcI K C qual st ps) (S : FnScope N ps (defScope st)) (len : ∀ vs H Q E, sp vs H Q E → vs.length = ps.length)
    (hbody : ∀ (f : Addr) (cdv : Value) (A : Around) (outer : List Env) (s : Shared) (H : Hp) (vs : List V) (Q : VK) (E : XK), Room k (A.deeper (envOfC qual (defScope st) s.heap.objs.size f cdv)) → sp vs H Q E →
      ∃ t, PSs (cxOf CX0 P w K mg base N qual (defScope st) f cdv A outer s H E).nox (defBody st) t ∧ t { nx := fun _ H' => Q .non H', rt := Q } (start N vs) H) : DefI P w K mg base CX0 (k + 1) C ps sp := by
  obtain ⟨f, fd, h1, h2, h3⟩ := F.ex
  exact ⟨f, fd, h2, h3, h1.ok S len (hbody f)⟩
end
theorem passAt0 {X : Cx} (σ : St) : PassesAt CX0 X σ E0 := fun _ _ _ _ _ _ h => h.elim
theorem Passes.at {CX : CXT} {X : Cx} {E : XK} (h : Passes CX X E) (σ : St) : PassesAt CX X σ E := fun pins H s e s' I c => h pins σ H s e s' I c
/-- o.m(..) -/
def tMetD (C : Addr) (m : Str) (sp : Sp) (E : St → XK) (ta : TE) (t : TA) : TE := fun σ H Q => ta σ H fun x H1 => ∃ a dx fs, x = .ref a ∧ H1 a = some (.ins C dx fs) ∧ fs.lookup m = none ∧ t σ H1 fun vs H2 => sp (x :: vs) H2 Q (E σ)
/-- C(..) -/
def tMkD (C : Addr) (sp : Sp) (E : St → XK) (t : TA) : TE := fun σ H Q => t σ H fun vs H1 => ∀ x dx, H1 x = none → H1 dx = none → dx ≠ x →
  sp (.ref x :: vs) (upd (upd H1 dx (.own x)) x (.ins C dx [])) (fun v H2 => v = .non ∧ Q (.ref x) H2) (E σ)
section
variable {X : Cx} {CX : CXT} {k : Nat} {C : Addr} {ps : List Str} {sp : Sp} {E : St → XK} {x m : Str} {p pos apos : Pos} {e o : Expr} {es : List Expr} {ta : TE} {t : TA}
theorem pe_metD {pl : Sem Bool} (D : DefM X.prog X.w X.K X.mg X.base CX k C m ps sp) (c : Cls X.K C) (hr : Room k X.A) (hx : ∀ σ, PassesAt CX X σ (E σ)) (he : PE X o ta) (ha : PA X (e :: es) t)
    (hst : starEach (e :: es) X.env = (false, eval e X.env) :: starEach es X.env := by rfl) (hpl : (backTo pos (starEach es X.env)).any (·.1) = false := by rfl)
    (ht : eval (.Call (.Attribute o m apos) (e :: es) [] pos) X.env = (do
      let ov ← eval o X.env
      standAt apos.atName
      let (f, first) ← holding [ov] (getMethod ov m pl)
      callWith pos f first (backTo pos (starEach (e :: es) X.env)) (backToKw pos (keywordEach [] X.env))) := by rfl) :
    PE X (.Call (.Attribute o m apos) (e :: es) [] pos) (tMetD C m sp E ta t) := by
  obtain ⟨f, fd, hm, hb, F⟩ := D.ex
  refine ⟨fun pins s σ H Q I h => ?_⟩
  refine PySem.W.methodCall_KW (pl := pl) (thn (he.run pins s σ H _ I h) fun u s1 ⟨x, H1, I1, rx, a, dx, fs, ex, ea, l, q⟩ => ?_) ht
  subst ex
  obtain rfl : u = Value.ref a := rx
  refine getmeth_ok I1 ea c hm l ?_
  refine PySem.W.callWith_K (first := [.ref a]) (h₀ := X.base) I.ok.mod.kin hm.kp (thn (ha.run pos pins s1 σ H1 _ I1 q) fun us s2 ⟨vs, H2, I2, r, q2⟩ => ⟨I2.kIn, ?_⟩) hst hpl
  exact run_fnS (us := .ref a :: us) (vs := .ref a :: vs) F hr hb (hx σ) I2 (.cons rfl r) q2
theorem pe_metD0 {pl : Sem Bool} (D : DefM X.prog X.w X.K X.mg X.base CX k C m ps sp) (c : Cls X.K C) (hr : Room k X.A) (hx : ∀ σ, PassesAt CX X σ (E σ)) (he : PE X o ta)
    (ht : eval (.Call (.Attribute o m apos) [] [] pos) X.env = (do
      let ov ← eval o X.env
      standAt apos.atName
      let (f, first) ← holding [ov] (getMethod ov m pl)
      callWith pos f first (backTo pos (starEach [] X.env)) (backToKw pos (keywordEach [] X.env))) := by rfl) :
    PE X (.Call (.Attribute o m apos) [] [] pos) (tMetD C m sp E ta tNil) := by
  obtain ⟨f, fd, hm, hb, F⟩ := D.ex
  refine ⟨fun pins s σ H Q I h => ?_⟩
  refine PySem.W.methodCall_KW (pl := pl) (thn (he.run pins s σ H _ I h) fun u s1 ⟨x, H1, I1, rx, a, dx, fs, ex, ea, l, q⟩ => ?_) ht
  subst ex
  obtain rfl : u = Value.ref a := rx
  refine getmeth_ok I1 ea c hm l ?_
  exact PySem.W.callWith_K0 (first := [.ref a]) I1.kIn hm.kp (run_fnS (us := [.ref a]) (vs := [.ref a]) F hr hb (hx σ) I1 (.cons rfl .nil) q)
theorem pe_mkD (D : DefI X.prog X.w X.K X.mg X.base CX k C ps sp) (hm : X.mg x = some (.ref C)) (hr : Room (k + 1) X.A) (hx : ∀ σ, PassesAt CX X σ (E σ)) (ha : PA X (e :: es) t) (hg : Gl X x := by rfl)
    (hdb : (x == ("__debug__" : Str)) = false := by decide) (he : starEach (e :: es) X.env = (false, eval e X.env) :: starEach es X.env := by rfl) (hpl : (backTo pos (starEach es X.env)).any (·.1) = false := by rfl) :
    PE X (.Call (.Name x p) (e :: es) [] pos) (tMkD C sp E t) := by
  obtain ⟨f, fd, M, hb, F⟩ := D.ex
  refine ⟨fun pins s0 σ H0 Q I0 h0 => ?_⟩
  refine wpAny_Call_Name_kw (ld_glob I0 hg hm ?_ hdb)
  refine PySem.W.callWith_K (h₀ := X.base) I0.ok.mod.kin M.kp (thn (ha.run pos pins s0 σ H0 _ I0 h0) fun us s ⟨vs, H, I, r, h⟩ => ⟨I.kIn, ?_⟩) he hpl
  show wpAny _ _ (call (.ref C) us) _ _ _
  have hq := h (s.heap.objs.size + 1) s.heap.objs.size (I.hok.fresh (Nat.le_succ _)) (I.hok.fresh (Nat.le_refl _)) (Nat.ne_of_lt (Nat.lt_succ_self _))
  have I2 := Inv.made (C := C) I
  have r2 : Vals (V.ref (s.heap.objs.size + 1) :: vs) (Value.ref (s.heap.objs.size + 1) :: us) := .cons rfl r
  have hl : ((Value.ref (s.heap.objs.size + 1) :: us) ++ []).length = ps.length := by
    have e := r2.length
    rw [F.len _ _ _ _ hq] at e
    rw [List.append_nil]
    exact e.symm
  have hbb := hb _ (Value.ref (s.heap.objs.size + 1) :: us) I2.kIn hl
  rw [List.append_nil] at hbb
  refine wpAny_call (make_map (f := f) I.kIn M.makes M.init (beq_iff_eq.mp M.fn) (codeAny_mono (F.run _ X.stack _ _ ⟨Value.ref (s.heap.objs.size + 1) :: us, []⟩ (Value.ref (s.heap.objs.size + 1) :: us) _ _ (E σ) (hr.make C us [])
    (I2.env0.make C us []) hbb r2 hq) fun r s' hq' => ?_))
  cases r with
  | error e => exact hx σ pins _ _ e s' I2 hq'
  | ok fl =>
    cases fl with
    | ret u =>
      obtain ⟨v, H', I3, rv, ev, q3⟩ := I2.after hq'
      subst ev
      exact ⟨rv, ⟨V.ref (s.heap.objs.size + 1), H', I3, rfl, q3⟩⟩
    | next => exact False.elim hq'
    | brk => exact False.elim hq'
    | cont => exact False.elim hq'
theorem kps_fld {K : PySem.W.Frag} {f : Str} {value : Expr} {pos' : Pos} {tv : TE} (ha : PE X o ta) (hv : PE X value tv) (hs : swapsWith value (some (.Attribute o f pos')) pos.line X.env = pure false := by rfl) (hK : X.K = K := by rfl) :
    PS X (.Assign [.Attribute o f pos'] value pos) (sFld K ta tv f) := hK ▸ ps_fld ha hv hs
theorem srcM_mk {K : PySem.W.Frag} {qual : Str} {st : Stmt} {f : Addr} {oc : Value} {od an : Option Addr} {osl : Array (Option Value)} {kV doc pm cdv ct : Value}
    (a : PySem.W.findIn K (.ref C) m = some (some (.ref f))) (i : PySem.W.isFn K (.ref f) = true) (l : K.lookup f = some ⟨oc, od, .func (PySem.W.fnOf m qual (defArgs st) (defBody st) (defScope st) .none kV doc pm an cdv ct), osl⟩)
    (c : PySem.W.codeIn K cdv qual = true) (k : PySem.W.keepIn K (.ref f) = true)
    (hb : ∀ (kV doc pm : Value) (an : Option Addr) (cdv ct : Value) (us : List Value), us.length = ps.length → bindArgs (PySem.W.fnOf m qual (defArgs st) (defBody st) (defScope st) .none kV doc pm an cdv ct) ⟨us, []⟩ = pure (ps.zip us)) : SrcM K C m qual st ps :=
  ⟨f, _, fun_mk l c k, ⟨a, i, k⟩, (fun_mk (st := st) l c k).binds hb⟩
theorem srcI_mk {K : PySem.W.Frag} {qual : Str} {st : Stmt} {f : Addr} {oc : Value} {od an : Option Addr} {osl : Array (Option Value)} {kV doc pm cdv ct : Value}
    (mk : PySem.W.makesIn K C = true) (kc : PySem.W.keepIn K (.ref C) = true)
    (a : PySem.W.findIn K (.ref C) "__init__" = some (some (.ref f))) (i : PySem.W.isFn K (.ref f) = true) (l : K.lookup f = some ⟨oc, od, .func (PySem.W.fnOf "__init__" qual (defArgs st) (defBody st) (defScope st) .none kV doc pm an cdv ct), osl⟩)
    (c : PySem.W.codeIn K cdv qual = true) (k : PySem.W.keepIn K (.ref f) = true)
    (hb : ∀ (kV doc pm : Value) (an : Option Addr) (cdv ct : Value) (us : List Value), us.length = ps.length → bindArgs (PySem.W.fnOf "__init__" qual (defArgs st) (defBody st) (defScope st) .none kV doc pm an cdv ct) ⟨us, []⟩ = pure (ps.zip us)) : SrcI K C qual st ps :=
  ⟨f, _, fun_mk l c k, ⟨mk, a, i, kc⟩, (fun_mk (st := st) l c k).binds hb⟩
end
end L2

set_option Elab.async false
set_option linter.all false
set_option maxRecDepth 100000
set_option maxHeartbeats 4000000
/-! Plans as plain data, how one stands in the heap, and which error is due. -/
namespace L2
open PySem PySem.Spec PyProof.Rows PySem.HErr
/-- an error of a plan -/
inductive PErr where
  | tooMany (kind : Str) (limit : Int)
  | badWord (w : Str)
  | double (n : Str)
  | badNumber (n : Int)
  | empty (n : Str)
  | unknown (n : Str)
def nameErr : Bool × Str → PErr
  | (true, n) => .unknown n
  | (false, n) => .double n
def placesDue : List Str → List (Str × Int) → Option PErr
  | _, [] => none
  | seen, (w, n) :: r => if wd w.cps.toList = true then (if w ∈ seen then some (.double w) else if 0 ≤ n ∧ n ≤ 99 then placesDue (seen ++ [w]) r else some (.badNumber n)) else some (.badWord w)
abbrev SRow := Str × List Str × List Str
def stepDue (places seen : List Str) (s : SRow) : Option PErr :=
  if wd s.1.cps.toList = true then (if s.1 ∈ seen then some (.double s.1) else if s.2.1 = [] then some (.empty s.1) else
    match chk places [] s.2.1 with
    | some x => some (nameErr x)
    | none => (chk places [] s.2.2).map nameErr) else some (.badWord s.1)
def stepsDue (places : List Str) : List Str → List SRow → Option PErr
  | _, [] => none
  | seen, s :: r => match stepDue places seen s with
    | some e => some e
    | none => stepsDue places (seen ++ [s.1]) r
def planDue (prs : List (Str × Int)) (srs : List SRow) : Option PErr :=
  if 12 < prs.length then some (.tooMany "places" 12) else if 16 < srs.length then some (.tooMany "steps" 16) else
    match placesDue [] prs with
    | some e => some e
    | none => stepsDue (prs.map (·.1)) [] srs
theorem placesDue_cons (seen : List Str) (w : Str) (n : Int) (r : List (Str × Int)) : placesDue seen ((w, n) :: r) = if wd w.cps.toList = true then (if w ∈ seen then some (.double w) else if 0 ≤ n ∧ n ≤ 99 then placesDue (seen ++ [w]) r else some (.badNumber n)) else some (.badWord w) := rfl
theorem stepsDue_cons (places seen : List Str) (s : SRow) (r : List SRow) : stepsDue places seen (s :: r) = match stepDue places seen s with
    | some e => some e
    | none => stepsDue places (seen ++ [s.1]) r := rfl
/-- names in the order of the places -/
def inOrd (places ns : List Str) : List Str := places.filter fun p => decide (p ∈ ns)
/-- a plan -/
structure PlanD where
  places : List Str
  begin : List Int
  steps : List SRow
def planOf (prs : List (Str × Int)) (srs : List SRow) : PlanD := ⟨prs.map (·.1), prs.map (·.2), srs.map fun s => (s.1, inOrd (prs.map (·.1)) s.2.1, inOrd (prs.map (·.1)) s.2.2)⟩
def PlanD.names (d : PlanD) : List Str := d.steps.map (·.1)
/-- a dict from words to tuples of words -/
def TabAt (H : Hp) (kvs : List (Key × V)) (rows : List (Str × List Str)) : Prop := Paired (fun (kv : Key × V) r => kv.1 = Sum.inr r.1 ∧ ∃ t, kv.2 = .ref t ∧ H t = some (.tup (r.2.map V.str))) kvs rows
/-- the plan d stands at x -/
structure PlanAt (H : Hp) (C x : Addr) (d : PlanD) : Prop where
  ex : ∃ (dx tp tb td tg ts : Addr) (kt kg : List (Key × V)), H x = some (.ins C dx [("places", .ref tp), ("begin", .ref tb), ("taken", .ref td), ("given", .ref tg), ("steps", .ref ts)]) ∧
    H tp = some (.tup (d.places.map V.str)) ∧ H tb = some (.tup (d.begin.map V.int)) ∧ H td = some (.dK kt) ∧ H tg = some (.dK kg) ∧ H ts = some (.tup (d.names.map V.str)) ∧
    TabAt H kt (d.steps.map fun s => (s.1, s.2.1)) ∧ TabAt H kg (d.steps.map fun s => (s.1, s.2.2))
theorem Paired.imp2 {α β : Type} {R S : α → β → Prop} (h : ∀ a b, R a b → S a b) : ∀ {l : List α} {m : List β}, Paired R l m → Paired S l m
  | _, _, .nil => .nil
  | _, _, .cons x y => .cons (h _ _ x) (Paired.imp2 h y)
theorem TabAt.keep {H H' : Hp} {kvs : List (Key × V)} {rows : List (Str × List Str)} (h : TabAt H kvs rows) (e : ∀ t l, H t = some (.tup l) → H' t = some (.tup l)) : TabAt H' kvs rows :=
  Paired.imp2 (fun _ _ ⟨h1, t, h2, h3⟩ => ⟨h1, t, h2, e t _ h3⟩) h
theorem PlanAt.keep {H H' : Hp} {C x : Addr} {d : PlanD} (h : PlanAt H C x d) (e : Same H H') : PlanAt H' C x d := by
  obtain ⟨dx, tp, tb, td, tg, ts, kt, kg, h1, h2, h3, h4, h5, h6, h7, h8⟩ := h.ex
  exact ⟨dx, tp, tb, td, tg, ts, kt, kg, e _ _ h1, e _ _ h2, e _ _ h3, e _ _ h4, e _ _ h5, e _ _ h6, h7.keep fun _ _ => e _ _, h8.keep fun _ _ => e _ _⟩
/-- rows of places, rows of steps, in the heap -/
def PRows (H : Hp) (a : Addr) (prs : List (Str × Int)) : Prop := ∃ ts : List Addr, H a = some (.lst (ts.map V.ref)) ∧ Paired (fun t (r : Str × Int) => H t = some (.tup [.str r.1, .int r.2])) ts prs
/-- a row of a step at t, its lists other than the one at a -/
def SRowIn (H : Hp) (a t : Addr) (r : SRow) : Prop := ∃ b c, H t = some (.tup [.str r.1, .ref b, .ref c]) ∧ H b = some (.lst (r.2.1.map V.str)) ∧ H c = some (.lst (r.2.2.map V.str)) ∧ b ≠ a ∧ c ≠ a
def SRows (H : Hp) (a : Addr) (srs : List SRow) : Prop := ∃ ts : List Addr, H a = some (.lst (ts.map V.ref)) ∧ Paired (SRowIn H a) ts srs
theorem PRows.keep {H H' : Hp} {a : Addr} {prs : List (Str × Int)} (h : PRows H a prs) (e : Same H H') : PRows H' a prs := by
  obtain ⟨ts, h1, h2⟩ := h
  exact ⟨ts, e _ _ h1, Paired.imp2 (fun _ _ h => e _ _ h) h2⟩
theorem SRows.keep {H H' : Hp} {a : Addr} {srs : List SRow} (h : SRows H a srs) (e : Same H H') : SRows H' a srs := by
  obtain ⟨ts, h1, h2⟩ := h
  exact ⟨ts, e _ _ h1, Paired.imp2 (fun _ _ ⟨b, c, x, y, z, u⟩ => ⟨b, c, e _ _ x, e _ _ y, e _ _ z, u⟩) h2⟩
theorem Paired.get {α β : Type} {R : α → β → Prop} : ∀ {l : List α} {m : List β} {i : Nat} {a : α}, Paired R l m → l[i]? = some a → ∃ b, m[i]? = some b ∧ R a b
  | _, _, _, _, .nil, h => by simp at h
  | _, _, 0, _, .cons x _, h => by cases h; exact ⟨_, rfl, x⟩
  | _, _, i + 1, _, .cons _ y, h => Paired.get (i := i) y h
theorem Paired.len {α β : Type} {R : α → β → Prop} : ∀ {l : List α} {m : List β}, Paired R l m → l.length = m.length
  | _, _, .nil => rfl
  | _, _, .cons _ y => by rw [List.length_cons, List.length_cons, Paired.len y]
theorem Paired.snoc {α β : Type} {R : α → β → Prop} {a : α} {b : β} (h : R a b) : ∀ {l : List α} {m : List β}, Paired R l m → Paired R (l ++ [a]) (m ++ [b])
  | _, _, .nil => .cons h .nil
  | _, _, .cons x y => .cons x (Paired.snoc h y)
/-- the classes of the errors of a plan -/
structure ECs where
  tooMany : Addr
  badWord : Addr
  double : Addr
  badNumber : Addr
  empty : Addr
  unknown : Addr
def PErr.cls (cs : ECs) : PErr → Addr
  | .tooMany _ _ => cs.tooMany
  | .badWord _ => cs.badWord
  | .double _ => cs.double
  | .badNumber _ => cs.badNumber
  | .empty _ => cs.empty
  | .unknown _ => cs.unknown
def PErr.fields : PErr → List (Str × V)
  | .tooMany k l => [("limit", .int l), ("kind", .str k)]
  | .badWord w => [("word", .str w)]
  | .double n => [("name", .str n)]
  | .badNumber n => [("number", .int n)]
  | .empty n => [("name", .str n)]
  | .unknown n => [("name", .str n)]
/-- an error e is what E wants -/
def RaisP (cs : ECs) (E : XK) (H : Hp) (e : PErr) : Prop := Rais E H (e.cls cs) e.fields
/-- the same, but the object at x may have changed -/
def RaisX (cs : ECs) (E : XK) (x : Addr) (H : Hp) (e : PErr) : Prop := ∀ H' d, SameB x H H' → H d = none → H' d = some (.xd e.fields) → E (.ref (e.cls cs)) (some d) H'
theorem RaisX.go {cs : ECs} {E : XK} {x d : Addr} {H H' : Hp} {e : PErr} (h : RaisX cs E x H e) (sm : SameB x H H') (n : H' d = none) (hx : ∃ o, H' x = some o) : E (.ref (e.cls cs)) (some d) (upd H' d (.xd e.fields)) := by
  have hd : d ≠ x := fun q => by
    obtain ⟨o, ho⟩ := hx
    rw [q, ho] at n
    cases n
  exact h _ d (fun a o ha e => by rw [upd_ne (ne_of_none (sm a o ha e) n)]; exact sm a o ha e) (sm.free hd n) upd_same
theorem valV_tab {H : Hp} : ∀ {kvs : List (Key × V)} {rows : List (Str × List Str)}, TabAt H kvs rows → ∀ n : Str,
    (n ∈ rows.map (·.1) → ∃ t l, valV kvs (Sum.inr n) = some (.ref t) ∧ H t = some (.tup (l.map V.str)) ∧ rows.lookup n = some l) ∧ (n ∉ rows.map (·.1) → valV kvs (Sum.inr n) = none)
  | _, _, .nil, n => ⟨(fun h => by cases h), fun _ => rfl⟩
  | kv :: kvs, r :: rows, .cons ⟨h1, t, h2, h3⟩ hr, n => by
    obtain ⟨ih1, ih2⟩ := valV_tab hr n
    by_cases e : r.1 = n
    · refine ⟨fun _ => ⟨t, r.2, ?_, h3, ?_⟩, fun h => absurd (List.mem_cons_self ..) (by rw [← e] at h; exact h)⟩
      · rw [valV_pos (by rw [h1, e]), h2]
      · obtain ⟨r1, r2⟩ := r
        have e : r1 = n := e
        rw [List.lookup_cons, e]
        simp
    · have hk : ¬ kv.1 = Sum.inr n := fun q => by rw [h1] at q; exact e (Sum.inr.inj q)
      refine ⟨fun h => ?_, fun h => ?_⟩
      · rcases List.mem_cons.mp h with h | h
        · exact absurd h.symm e
        · obtain ⟨t', l, a, b, c⟩ := ih1 h
          refine ⟨t', l, by rw [valV_neg hk]; exact a, b, ?_⟩
          obtain ⟨r1, r2⟩ := r
          have hne : (n == r1) = false := by simpa using fun q : n = r1 => e q.symm
          rw [List.lookup_cons, hne]
          exact c
      · rw [valV_neg hk]
        exact ih2 fun q => h (List.mem_cons_of_mem _ q)
/-- [row[0] for row in rows], the heads texts -/
theorem lc_heads {K : PySem.W.Frag} {σ : St} {H : Hp} {j r : Nat} {a : Addr} {ts : List Addr} {ws : List Str} {Q : VK} (ha : H a = some (.lst (ts.map V.ref))) (hp : Paired (fun t z => ∃ rest, H t = some (.tup (.str z :: rest))) ts ws) (hl : ws.length ≤ 1000)
    (hσ : σ[j]? = some (some (.ref a))) (hr : r < σ.length) (q : ∀ (D : Addr) (H' : Hp), H D = none → Same H H' → H' D = some (.lst (ws.map V.str)) → Q (.ref D) H') :
    tLc (iList K (tVar j)) (gName r) tYes (tOp (rIxT K) (tVar r) (tC (.int 0))) [r] σ H Q := by
  refine ⟨_, hσ, a, rfl, ⟨_, SqL.of ha⟩, fun D nD => lc_list (K := K) (a := a) (xs := ts.map V.ref) (fun i H' => Same H H' ∧ H' D = some (.lst ((ws.take i).map V.str))) ⟨same_upd nD, upd_same⟩ (fun i H' _ h' => SqL.of (h'.1 _ _ ha)) ?_ ?_⟩
  · rintro i x H' hi ⟨sm, hD⟩
    obtain ⟨t, ht, rfl⟩ := map_get hi
    obtain ⟨z, hz, rest, hrow⟩ := Paired.get hp ht
    refine ⟨?_, yes_if ?_⟩
    · show ((σ.set r none).set r (some (V.ref t))).set r none = σ.set r none
      rw [List.set_set, List.set_set]
    · have hv : ((σ.set r none).set r (some (V.ref t)))[r]? = some (some (V.ref t)) := by
        rw [List.getElem?_set_self (by rw [List.length_set]; exact hr)]
      refine ⟨_, hv, t, _, _, _, rfl, rfl, SqT.of (sm _ _ hrow), atI_nat (j := 0) rfl, _, hD, ?_, fun b o e => ?_, ?_⟩
      · rw [List.length_map, List.length_take]
        exact small1000 (by omega)
      · rw [upd_ne (ne_of_none e nD)]
        exact sm b o e
      · rw [upd_same, take_more hz, List.map_append]
        rfl
  · rintro H' ⟨sm, hD⟩
    rw [List.length_map, Paired.len hp, List.take_length] at hD
    exact q D H' nD sm hD
theorem PRows.heads {H : Hp} {ts : List Addr} {prs : List (Str × Int)} (h : Paired (fun t (r : Str × Int) => H t = some (.tup [.str r.1, .int r.2])) ts prs) : Paired (fun t z => ∃ rest, H t = some (.tup (.str z :: rest))) ts (prs.map (·.1)) := by
  induction h with
  | nil => exact .nil
  | cons a _ ih => exact .cons ⟨_, a⟩ ih
theorem SRows.heads {H : Hp} {a : Addr} {ts : List Addr} {srs : List SRow} (h : Paired (SRowIn H a) ts srs) : Paired (fun t z => ∃ rest, H t = some (.tup (.str z :: rest))) ts (srs.map (·.1)) := by
  induction h with
  | nil => exact .nil
  | cons a _ ih =>
    obtain ⟨b, c, h1, _⟩ := a
    exact .cons ⟨_, h1⟩ ih
/-- rows without what stands at b -/
theorem PRows.bx {b l : Addr} {H H' : Hp} {a : Addr} {prs : List (Str × Int)} (h : PRows H a prs) (e : Bx b l H H') : PRows H' a prs := by
  obtain ⟨ts, h1, h2⟩ := h
  obtain ⟨ns, i, c, r, hb, _⟩ := e.b0.ex
  have nt : ∀ {t : Addr} {xs : List V}, H t = some (.tup xs) → t ≠ b := fun {t xs} h q => by rw [q, hb] at h; cases h
  have nl : a ≠ b := fun q => by
    rw [q, hb] at h1
    have h1 : [V.int i, V.int c, V.int r, V.ref l] = ts.map V.ref := HO.lst.inj (Option.some.inj h1)
    cases ts with
    | nil => cases h1
    | cons t ts => cases h1
  exact ⟨ts, e.at h1 nl, Paired.imp2 (fun _ _ h => e.at h (nt h)) h2⟩
theorem lst_strs_ne {b l : Addr} {H : Hp} {a : Addr} {ws : List Str} (hb : Box H b l) (h : H a = some (.lst (ws.map V.str))) : a ≠ b := fun q => by
  obtain ⟨ns, i, c, r, hb, _⟩ := hb.ex
  rw [q, hb] at h
  have h1 : [V.int i, V.int c, V.int r, V.ref l] = ws.map V.str := HO.lst.inj (Option.some.inj h)
  cases ws with
  | nil => cases h1
  | cons t ts => cases h1
theorem lst_refs_ne {b l : Addr} {H : Hp} {a : Addr} {ts : List Addr} (hb : Box H b l) (h : H a = some (.lst (ts.map V.ref))) : a ≠ b := fun q => by
  obtain ⟨ns, i, c, r, hb, _⟩ := hb.ex
  rw [q, hb] at h
  have h1 : [V.int i, V.int c, V.int r, V.ref l] = ts.map V.ref := HO.lst.inj (Option.some.inj h)
  cases ts with
  | nil => cases h1
  | cons t ts => cases h1
theorem tup_ne {b l : Addr} {H : Hp} {a : Addr} {xs : List V} (hb : Box H b l) (h : H a = some (.tup xs)) : a ≠ b := fun q => by
  obtain ⟨ns, i, c, r, hb, _⟩ := hb.ex
  rw [q, hb] at h
  cases h
theorem SRows.bx {b l : Addr} {H H' : Hp} {a : Addr} {srs : List SRow} (h : SRows H a srs) (e : Bx b l H H') : SRows H' a srs := by
  obtain ⟨ts, h1, h2⟩ := h
  exact ⟨ts, e.at h1 (lst_refs_ne e.b0 h1), Paired.imp2 (fun _ _ ⟨x, y, h3, h4, h5, u⟩ => ⟨x, y, e.at h3 (tup_ne e.b0 h3), e.at h4 (lst_strs_ne e.b0 h4), e.at h5 (lst_strs_ne e.b0 h5), u⟩) h2⟩
theorem PRows.snoc {H : Hp} {a t : Addr} {ts : List Addr} {prs : List (Str × Int)} {r : Str × Int} (h1 : H a = some (.lst (ts.map V.ref))) (h2 : Paired (fun t (r : Str × Int) => H t = some (.tup [.str r.1, .int r.2])) ts prs) (ht : H t = some (.tup [.str r.1, .int r.2])) :
    PRows (upd H a (.lst (ts.map V.ref ++ [V.ref t]))) a (prs ++ [r]) := by
  have ne : ∀ {c : Addr} {xs : List V}, H c = some (.tup xs) → c ≠ a := fun {c xs} e q => by rw [q, h1] at e; cases e
  refine ⟨ts ++ [t], ?_, Paired.snoc ?_ (Paired.imp2 (fun c r e => ?_) h2)⟩
  · rw [upd_same, List.map_append]
    rfl
  · rw [upd_ne (ne ht)]
    exact ht
  · rw [upd_ne (ne e)]
    exact e
theorem SRows.snoc {H : Hp} {a t : Addr} {ts : List Addr} {srs : List SRow} {r : SRow} (h1 : H a = some (.lst (ts.map V.ref))) (h2 : Paired (SRowIn H a) ts srs) (ht : SRowIn H a t r) : SRows (upd H a (.lst (ts.map V.ref ++ [V.ref t]))) a (srs ++ [r]) := by
  have key : ∀ {t : Addr} {r : SRow} {o : HO}, SRowIn H a t r → SRowIn (upd H a o) a t r := fun {t r o} ⟨b, c, x, y, z, u1, u2⟩ =>
    ⟨b, c, by rw [upd_ne (fun q => by rw [q, h1] at x; cases x)]; exact x, by rw [upd_ne u1]; exact y, by rw [upd_ne u2]; exact z, u1, u2⟩
  refine ⟨ts ++ [t], ?_, Paired.snoc (key ht) (Paired.imp2 (fun _ _ e => key e) h2)⟩
  rw [upd_same, List.map_append]
  rfl
end L2

set_option Elab.async false
set_option linter.all false
set_option maxRecDepth 100000
set_option maxHeartbeats 4000000

namespace Held
open PySem PySem.Spec PyProof.Rows L2 PySem.HErr

def topS (i : Nat) : Stmt := PySem.Challenge.pw_heldsteps_k04_refusals_of_a_plan.main.body.getD i (.Pass ⟨0, 0, 0, 0⟩)
/-! ## box -/
section
variable {P : Program} {w : World} {K : PySem.W.Frag} {mg : Str → Option Value} {base : Heap}
abbrev s__law_next : Stmt := topS 25
theorem sc__law_next : FnScope ["_law_box_here", "_law_many", "_law_cell", "_law_value", "_law_mixed"] ["_law_box_here", "_law_many"] (defScope s__law_next) := ⟨rfl, rfl, rfl, by decide +kernel, rfl, by decide +kernel, by decide +kernel⟩
theorem fmod_box {x m : Int} (h : 0 < m) : 0 ≤ x.fmod m ∧ x.fmod m < m := ⟨Int.fmod_nonneg_of_pos _ h, Int.fmod_lt_of_pos _ h⟩
theorem big200 {m : Int} (h0 : 0 < m) (h : m ≤ 10 ^ 40) : m.natAbs < 2 ^ 200 := by
  have e : (10 : Int) ^ 40 < 2 ^ 200 := by decide
  have e2 : ((2 ^ 200 : Nat) : Int) = 2 ^ 200 := by decide
  omega
theorem ok_next {k : Nat} (B : Bl mg) (F : Src K mg "_law_next" s__law_next ["_law_box_here", "_law_many"]) : Def P w K mg base CX0 (k + 1) "_law_next" ["_law_box_here", "_law_many"] spNext := by
  refine F.ok sc__law_next (fun vs H Q E h => ?_) (fun f cdv A outer s H vs Q E hr h => ?_)
  · obtain ⟨b, l, many, rfl, _⟩ := h
    rfl
  · obtain ⟨b, l, many, rfl, hm, hm2, hbox, q⟩ := h
    obtain ⟨ns, i, c, r, hb, hl, hi, hlb⟩ := hbox.ex
    refine ⟨_, (C8.pss_cut (ps_if (PW.pt (pw_and (pt_cmpR op_eq (pe_ix (kix_list (K := K)) (pv 0) pe_int (fun _ _ => rfl)) pe_int (nomark _)) (pw_and1 (pt_cmpR op_lt (pe_ix (kix_list (K := K)) (pv 0) pe_int (fun _ _ => rfl)) (pe_callB (kcall_len (K := K)) (by rfl) B.len PySem.boot_len (pa_cons (pe_ix (kix_list (K := K)) (pv 0) pe_int (fun _ _ => rfl)) pa_nil)) (nomark _))))) (pss_cons (ps_asg (pe_ix (kix_list (K := K)) (pe_ix (kix_list (K := K)) (pv 0) pe_int (fun _ _ => rfl)) (pe_ix (kix_list (K := K)) (pv 0) pe_int (fun _ _ => rfl)) (fun _ _ => rfl)) (pg_name (i := 2) sc__law_next.nd rfl (Or.inl rfl)))
 (pss_cons (ps_asg (pe_op op_add (pe_ix (kix_list (K := K)) (pv 0) pe_int (fun _ _ => rfl)) pe_int) (pg_sub (pv 0) pe_int set_list))
 (pss_one (ps_if (pt_cmpR op_ge (pv 2) (pe_op op_pow pe_int pe_int) (nomark _)) (pss_one (ps_asg (pv 2) (pg_sub (pv 0) pe_int set_list))) (pss_one (ps_asg (pe_op op_modN (pe_callTy call_int1 (by rfl) B.int' (by decide +kernel) (pa_cons (pe_op op_add (pe_op op_add (pe_op op_mul (pe_ix (kix_list (K := K)) (pv 0) pe_int (fun _ _ => rfl)) pe_int) (pe_op op_mul (pv 2) pe_int)) (pe_ix (kix_list (K := K)) (pv 0) pe_int (fun _ _ => rfl))) pa_nil)) pe_int) (pg_sub (pv 0) pe_int set_list))))))) pss_nil)
 (pss_cons (ps_if (pt_cmpR op_gt (pe_ix (kix_list (K := K)) (pv 0) pe_int (fun _ _ => rfl)) pe_int (nomark _)) (pss_cons (ps_asg (pe_op op_modN (pe_callTy call_int1 (by rfl) B.int' (by decide +kernel) (pa_cons (pe_ix (kix_list (K := K)) (pv 0) pe_int (fun _ _ => rfl)) pa_nil)) (pv 1)) (pg_name (i := 3) sc__law_next.nd rfl (Or.inl rfl)))
 (pss_cons (ps_asg (pe_op op_fdivW (pe_ix (kix_list (K := K)) (pv 0) pe_int (fun _ _ => rfl)) (pv 1)) (pg_sub (pv 0) pe_int set_list))
 (pss_one (ps_ret (pv 3))))) pss_nil)
 (pss_cons (ps_asg (pe_op op_modN (pe_callTy call_int1 (by rfl) B.int' (by decide +kernel) (pa_cons (pe_op op_add (pe_op op_mul (pe_ix (kix_list (K := K)) (pv 0) pe_int (fun _ _ => rfl)) pe_int) pe_int) pa_nil)) pe_int) (pg_sub (pv 0) pe_int set_list))
 (pss_cons (ps_asg (pe_op op_modN (pe_callTy call_int1 (by rfl) B.int' (by decide +kernel) (pa_cons (pe_op op_add (pe_op op_add (pe_op op_mul (pe_ix (kix_list (K := K)) (pv 0) pe_int (fun _ _ => rfl)) pe_int) (pe_op op_mul (pe_ix (kix_list (K := K)) (pv 0) pe_int (fun _ _ => rfl)) pe_int)) pe_int) pa_nil)) pe_int) (pg_name (i := 4) sc__law_next.nd rfl (Or.inl rfl)))
 (pss_one (ps_ret (pe_op op_modN (pe_op op_fdivN (pv 4) pe_int) (pv 1)))))))), ?_⟩
    have hz : ∀ o : HO, (upd H b o) l = some (.lst (ns.map V.int)) := fun o => by rw [upd_ne hlb]; exact hl
    refine ⟨fun σ' H' => ∃ (i2 c2 r2 : Int) (y2 : Option V), 0 ≤ i2 ∧ H' = upd H b (.lst [.int i2, .int c2, .int r2, .ref l]) ∧ σ' = [some (.ref b), some (.int many), y2, none, none], ?_, ?_⟩
    · have hH : H = upd H b (.lst [.int i, .int c, .int r, .ref l]) := by
        funext a
        by_cases ha : a = b
        · rw [ha, upd_same, hb]
        · rw [upd_ne ha]
      refine ⟨_, rfl, b, _, _, _, rfl, rfl, SqL.of hb, rfl, rfl, _, rfl, ?_⟩
      refine ite2 (fun h1 => ?_) (fun h1 => ?_)
      · refine ⟨_, rfl, b, _, _, _, rfl, rfl, SqL.of hb, rfl, _, rfl, b, _, _, _, rfl, rfl, SqL.of hb, rfl, l, _, rfl, .inl (SqL.of hl), _, _, rfl, rfl, _, rfl, ?_⟩
        refine ite2 (fun h2 => ?_) (fun h2 => ?_)
        · have h2 : i < (ns.map V.int).length := of_decide_eq_true h2
          rw [List.length_map] at h2
          obtain ⟨j, rfl⟩ : ∃ j : Nat, i = j := ⟨i.toNat, by omega⟩
          have hj : j < ns.length := by omega
          have g : (ns.map V.int)[j]? = some (.int ns[j]) := by
            rw [List.getElem?_map, List.getElem?_eq_getElem hj]
            rfl
          refine ⟨_, rfl, b, _, _, _, rfl, rfl, SqL.of hb, rfl, _, rfl, b, _, _, _, rfl, rfl, SqL.of hb, rfl, l, _, _, _, rfl, rfl, SqL.of hl, atI_nat g, ?_⟩
          refine ⟨_, rfl, b, _, _, _, rfl, rfl, SqL.of hb, rfl, _, _, rfl, rfl, _, rfl, b, _, _, _, rfl, rfl, hb, rfl, ?_⟩
          refine ⟨_, rfl, _, _, rfl, rfl, ⟨by decide, by decide, by decide⟩, _, _, rfl, rfl, _, rfl, ?_⟩
          refine ite2 (fun h3 => ?_) (fun h3 => ?_)
          · refine ⟨_, rfl, _, rfl, b, _, _, _, rfl, rfl, upd_same, rfl, ?_⟩
            exact ⟨(j : Int) + 1, _, _, _, by omega, upd_twice, rfl⟩
          · have hu : (upd H b (.lst ([V.int (j : Int), V.int c, V.int r, V.ref l].set (Int.toNat 0) (V.int ((j : Int) + 1))))) b = some (.lst [.int ((j : Int) + 1), .int c, .int r, .ref l]) := upd_same
            refine ⟨_, rfl, b, _, _, _, rfl, rfl, SqL.of hu, rfl, _, _, rfl, rfl, .inr ⟨by decide, by decide⟩, _, rfl, _, _, rfl, rfl, .inr ⟨by decide, by decide⟩, _, _, rfl, rfl, _, rfl, b, _, _, _, rfl, rfl, SqL.of hu, rfl, _, _, rfl, rfl, .inl ⟨_, rfl, _, _, rfl, rfl, (show (2147483647 : Int) ≠ 0 by decide), ?_⟩⟩
            refine ⟨_, rfl, b, _, _, _, rfl, rfl, hu, rfl, ?_⟩
            exact ⟨(j : Int) + 1, _, _, _, by omega, upd_twice, rfl⟩
        · exact ⟨i, c, r, none, hi, hH, rfl⟩
      · exact ⟨i, c, r, none, hi, hH, rfl⟩
    · rintro σ' H' ⟨i2, c2, r2, y2, hi2, rfl, rfl⟩
      have hu : (upd H b (.lst [.int i2, .int c2, .int r2, .ref l])) b = some (.lst [.int i2, .int c2, .int r2, .ref l]) := upd_same
      refine ⟨_, rfl, b, _, _, _, rfl, rfl, SqL.of hu, rfl, _, _, rfl, rfl, _, rfl, ?_⟩
      refine ite2 (fun h1 => ?_) (fun h1 => ?_)
      · refine ⟨_, rfl, b, _, _, _, rfl, rfl, SqL.of hu, rfl, .inl ⟨_, rfl, _, rfl, _, _, rfl, rfl, by omega, ?_⟩⟩
        refine ⟨_, rfl, b, _, _, _, rfl, rfl, SqL.of hu, rfl, _, rfl, _, _, rfl, rfl, wide_div (b := 200) hm (big200 hm hm2) (by decide) (by decide), ?_⟩
        refine ⟨_, rfl, b, _, _, _, rfl, rfl, hu, rfl, ?_⟩
        refine ⟨_, rfl, ?_⟩
        rw [upd_twice]
        have f := fmod_box (x := c2) hm
        exact q _ _ f.1 f.2 ⟨(SameB.refl b H).upd, hbox, ns, i2, _, r2, upd_same, hz _, hi2, hlb⟩
      · refine ⟨_, rfl, b, _, _, _, rfl, rfl, SqL.of hu, rfl, _, _, rfl, rfl, .inr ⟨by decide, by decide⟩, _, _, rfl, rfl, .inl ⟨_, rfl, _, _, rfl, rfl, (show (2147483647 : Int) ≠ 0 by decide), ?_⟩⟩
        refine ⟨_, rfl, b, _, _, _, rfl, rfl, hu, rfl, ?_⟩
        rw [upd_twice]
        have hu2 : (upd H b (.lst ([V.int i2, V.int c2, V.int r2, V.ref l].set (Int.toNat 2) (V.int ((r2 * 48271 + 11).fmod 2147483647))))) b = some (.lst [.int i2, .int c2, .int ((r2 * 48271 + 11).fmod 2147483647), .ref l]) := upd_same
        refine ⟨_, rfl, b, _, _, _, rfl, rfl, SqL.of hu2, rfl, _, _, rfl, rfl, .inr ⟨by decide, by decide⟩, _, rfl, b, _, _, _, rfl, rfl, SqL.of hu2, rfl, _, _, rfl, rfl, .inr ⟨by decide, by decide⟩, _, _, rfl, rfl, _, _, rfl, rfl, .inl ⟨_, rfl, _, _, rfl, rfl, (show (2147483629 : Int) ≠ 0 by decide), ?_⟩⟩
        refine ⟨_, rfl, _, _, rfl, rfl, ⟨by decide, by decide⟩, _, rfl, _, _, rfl, rfl, by omega, ?_⟩
        exact q _ _ (fmod_box hm).1 (fmod_box hm).2 ⟨(SameB.refl b H).upd, hbox, ns, i2, _, _, upd_same, hz _, hi2, hlb⟩
abbrev s__law_box : Stmt := topS 24
theorem sc__law_box : FnScope ["_law_script", "_law_cell"] ["_law_script"] (defScope s__law_box) := ⟨rfl, rfl, rfl, by decide +kernel, rfl, by decide +kernel, by decide +kernel⟩
theorem ok_box {k : Nat} (B : Bl mg) (F : Src K mg "_law_box" s__law_box ["_law_script"]) : Def P w K mg base CX0 (k + 1) "_law_box" ["_law_script"] (spBox K) := by
  refine F.ok sc__law_box (fun vs H Q E h => ?_) (fun f cdv A outer s H vs Q E hr h => ?_)
  · obtain ⟨a, ns, rfl, _⟩ := h
    rfl
  · obtain ⟨a, ns, rfl, hS, hlen, q⟩ := h
    refine ⟨_, (pss_one (ps_ret (pe_lst (pa_cons pe_int (pa_cons pe_int (pa_cons pe_int (pa_cons (pe_lc (own := [("_law_cell", 1)]) (g := gName 1) (by rfl) sc__law_box.nd (kpi_list (K := K) (pv 0)) (blkOk_by (N := ["_law_script", "_law_cell"]) (sc := defScope s__law_box) (by decide +kernel)) (fun _ _ _ _ _ => (pg_name (i := 1) sc__law_box.nd rfl (Or.inl rfl))) (fun _ _ _ _ _ => pts_nil) (fun _ _ _ _ _ => (pe_callTy call_int1 (by rfl) B.int' (by decide +kernel) (pa_cons (pv 1) pa_nil)))) pa_nil))))))), ?_⟩
    refine ⟨_, rfl, a, rfl, ⟨_, hS⟩, fun D nD => lc_list (K := K) (a := a) (xs := ns.map V.int) (fun i H' => Same H H' ∧ H' D = some (.lst ((ns.take i).map V.int))) ⟨same_upd nD, upd_same⟩ (fun i H' _ h' => h'.1.seq hS) ?_ ?_⟩
    · rintro i x H' hi ⟨sm, hD⟩
      obtain ⟨z, hz, rfl⟩ : ∃ z, ns[i]? = some z ∧ V.int z = x := by
        rw [List.getElem?_map] at hi
        cases e : ns[i]? with
        | none => rw [e] at hi; cases hi
        | some z => rw [e] at hi; exact ⟨z, rfl, Option.some.inj hi⟩
      refine ⟨rfl, ?_⟩
      refine yes_if ?_
      refine ⟨_, rfl, .inl ⟨_, rfl, _, hD, ?_, ?_, ?_⟩⟩
      · rw [List.length_map, List.length_take]
        exact small1000 (by omega)
      · intro b o e
        rw [upd_ne (ne_of_none e nD)]
        exact sm b o e
      · rw [upd_same, List.take_add_one, hz, List.map_append]
        rfl
    · rintro H' ⟨sm, hD⟩
      rw [List.length_map, List.take_length] at hD
      refine ⟨by show 4 ≤ sizeLine; decide, fun p hp => ?_⟩
      have hpD : D ≠ p := ne_of_none hD hp
      exact q p D _ (sm.free hp) (sm.trans (same_upd hp)) ⟨ns, 0, 0, 7, upd_same, by rw [upd_ne hpD]; exact hD, by omega, hpD⟩
end

/-! ## words -/
section
variable {P : Program} {w : World} {K : PySem.W.Frag} {mg : Str → Option Value} {base : Heap}
abbrev s_is_word : Stmt := topS 13
theorem sc_is_word : FnScope ["word", "sign"] ["word"] (defScope s_is_word) := ⟨rfl, rfl, rfl, by decide +kernel, rfl, by decide +kernel, by decide +kernel⟩
def spIsWord : Sp := fun vs H Q _ => ∃ z : Str, vs = [.str z] ∧ z.length ≤ sizeLine ∧ ∀ H', Same H H' → Q (.bl (wd z.cps.toList)) H'
theorem ok_is_word {k : Nat} (B : Bl mg) (g_LETTERS : Glo mg "LETTERS" (.str LETTERS)) (g_DIGITS : Glo mg "DIGITS" (.str DIGITS)) (g_MOST_SIGNS : Glo mg "MOST_SIGNS" (.int 12)) (F : Src K mg "is_word" s_is_word ["word"]) : Def P w K mg base CX0 (k + 1) "is_word" ["word"] spIsWord := by
  refine F.ok sc_is_word (fun vs H Q E h => ?_) (fun f cdv A outer s H vs Q E hr h => ?_)
  · obtain ⟨z, rfl, _⟩ := h
    rfl
  · obtain ⟨z, rfl, hz, q⟩ := h
    refine ⟨_, (pss_cons (ps_if (pt_not (pt_chain op_le op_le pe_int (pe_callB call_len_str (by rfl) B.len PySem.boot_len (pa_cons (pv 0) pa_nil)) (pe_glo g_MOST_SIGNS))) (pss_one (ps_ret pe_bl)) pss_nil)
 (pss_cons (ps_if (pt_cmpR op_notIn_sign (pe_ix ix_str (pv 0) pe_int (fun _ _ => rfl)) (pe_glo g_LETTERS) rfl) (pss_one (ps_ret pe_bl)) pss_nil)
 (pss_one (ps_ret (pe_callB (kcr_all (K := K) rfl) (by rfl) B.all' (by decide +kernel) (pa_cons (pe_lc (own := [("sign", 1)]) (g := gName 1) (by rfl) sc_is_word.nd (pi_str (pv 0)) (blkOk_by (N := ["word", "sign"]) (sc := defScope s_is_word) (by decide +kernel)) (fun _ _ _ _ _ => (pg_name (i := 1) sc_is_word.nd rfl (Or.inl rfl))) (fun _ _ _ _ _ => pts_nil) (fun _ _ _ _ _ => (pe_or (pe_cmpR op_in_sign (pv 1) (pe_glo g_LETTERS) rfl) (pe_one (pe_cmpR op_in_sign (pv 1) (pe_glo g_DIGITS) rfl))))) pa_nil)))))), ?_⟩
    have hl := len_cps z
    have no : ∀ b : Bool, wd z.cps.toList = b → ∀ H', Same H H' → Q (.bl b) H' := fun b e H' s => by rw [← e]; exact q H' s
    -- not 1 <= len(word) <= 12
    refine ⟨_, rfl, _, rfl, hz, _, _, rfl, rfl, _, rfl, ?_⟩
    refine ite2 (fun h1 => ?_) (fun h1 => ?_)
    · have h1 : (1 : Int) ≤ z.length := of_decide_eq_true h1
      refine ⟨_, _, rfl, rfl, _, rfl, ?_⟩
      refine ite2 (fun h2 => ?_) (fun h2 => ?_)
      · have h2 : ¬ (z.length : Int) ≤ 12 := by simpa using h2
        refine no _ ?_ _ (Same.refl H)
        have : ¬ (1 ≤ z.cps.toList.length ∧ z.cps.toList.length ≤ 12) := by omega
        unfold wd
        rw [decide_eq_false this]
        rfl
      · have h2 : (z.length : Int) ≤ 12 := by simpa using h2
        -- word[0] not in LETTERS
        have hc : z.cps.toList[0]? = some (z.cps.toList.headD 0) := by
          cases e : z.cps.toList with
          | nil => rw [e] at hl; simp at hl; omega
          | cons a r => rfl
        have hw : (decide (1 ≤ z.cps.toList.length ∧ z.cps.toList.length ≤ 12)) = true := decide_eq_true (by omega)
        refine ⟨_, rfl, z, _, _, rfl, rfl, hz, atI_nat (j := 0) hc, _, _, rfl, rfl, _, rfl, ?_⟩
        refine ite2 (fun h3 => ?_) (fun h3 => ?_)
        · refine no _ ?_ _ (Same.refl H)
          have h3 : decide (z.cps.toList.headD 0 ∈ LETTERS.cps.toList) = false := by simpa using h3
          unfold wd
          rw [h3, Bool.false_and, Bool.and_false]
        · have h3 : decide (z.cps.toList.headD 0 ∈ LETTERS.cps.toList) = true := by simpa using h3
          have hv : wd z.cps.toList = z.cps.toList.all okc := by
            unfold wd
            rw [hw, h3, Bool.true_and, Bool.true_and]
          -- all([..])
          refine ⟨_, rfl, z, rfl, fun D nD => lc_it (walk_str (z := z)) (fun i H' => Same H H' ∧ H' D = some (.lst (((z.cps.toList.take i).map okc).map V.bl))) ⟨same_upd nD, upd_same⟩ (fun _ _ _ _ => trivial) ?_ ?_⟩
          · rintro i x H' H2 hi ⟨sm, hD⟩ ⟨rfl, c, hc, rfl⟩
            have hc2 : z.cps.toList[i]? = some c := by simpa using hc
            refine ⟨rfl, yes_if ?_⟩
            have fin : ∃ acc, H2 D = some (.lst acc) ∧ acc.length < sizeLine ∧ Same H (upd H2 D (.lst (acc ++ [V.bl (okc c)]))) ∧ upd H2 D (.lst (acc ++ [V.bl (okc c)])) D = some (.lst (((z.cps.toList.take (i + 1)).map okc).map V.bl)) := by
              refine ⟨_, hD, ?_, fun b o e => ?_, ?_⟩
              · rw [List.length_map, List.length_map, List.length_take]
                exact small1000 (by omega)
              · rw [upd_ne (ne_of_none e nD)]
                exact sm b o e
              · rw [upd_same, all_take hc2, List.map_append]
                rfl
            refine ⟨_, rfl, c, _, rfl, rfl, _, rfl, ?_⟩
            refine ite2 (fun h4 => ?_) (fun h4 => ?_)
            · have e : okc c = true := by unfold okc; rw [h4, Bool.true_or]
              rw [e] at fin
              exact fin
            · have h4 : decide (c ∈ LETTERS.cps.toList) = false := by simpa using h4
              have e : okc c = decide (c ∈ DIGITS.cps.toList) := by unfold okc; rw [h4, Bool.false_or]
              rw [e] at fin
              exact ⟨_, rfl, c, _, rfl, rfl, fin⟩
          · rintro H' ⟨sm, hD⟩
            have e : z.cps.toList.take z.cps.size = z.cps.toList := List.take_of_length_le (by simp)
            rw [e] at hD
            refine ⟨D, _, rfl, SqL.of hD, ?_⟩
            rw [all_id]
            exact no _ hv _ sm
    · have h1 : ¬ (1 : Int) ≤ z.length := by simpa using h1
      refine ⟨_, rfl, ?_⟩
      refine no _ ?_ _ (Same.refl H)
      have : ¬ (1 ≤ z.cps.toList.length ∧ z.cps.toList.length ≤ 12) := by omega
      unfold wd
      rw [decide_eq_false this]
      rfl
abbrev s_check_word : Stmt := topS 14
theorem sc_check_word : FnScope ["word"] ["word"] (defScope s_check_word) := ⟨rfl, rfl, rfl, by decide +kernel, rfl, by decide +kernel, by decide +kernel⟩
def spCheckWord (C : Addr) : Sp := fun vs H Q E => ∃ z : Str, vs = [.str z] ∧ z.length ≤ sizeLine ∧ (wd z.cps.toList = true → ∀ H', Same H H' → Q (.str z) H') ∧ (wd z.cps.toList = false → Rais E H C [("word", .str z)])
theorem ok_check_word {k : Nat} {C_BadWord f_BadWord : Addr} (X_BadWord : ErrTxt P K mg false "BadWord" C_BadWord f_BadWord ["word"]) (D_is_word : Def P w K mg base CX0 k "is_word" ["word"] spIsWord) (F : Src K mg "check_word" s_check_word ["word"]) :
    Def P w K mg base (L2.CX P w) (k + 1) "check_word" ["word"] (spCheckWord C_BadWord) := by
  refine F.okX sc_check_word (fun vs H Q E h => ?_) (fun f cdv A outer s H vs Q E hr h => ?_)
  · obtain ⟨z, rfl, _⟩ := h
    rfl
  · obtain ⟨z, rfl, hz, q1, q2⟩ := h
    refine ⟨_, (pss_cons (ps_if (pt_not (pt_val (pe_def D_is_word hr pass0 (pa_cons (pv 0) pa_nil)))) (pss_one (ps_raiseE rfl X_BadWord hr (takes_of rfl rfl rfl rfl) (pa_cons (pv 0) pa_nil))) pss_nil)
 (pss_one (ps_ret (pv 0)))), ?_⟩
    refine ⟨_, rfl, z, rfl, hz, fun H' sm => ⟨_, rfl, ?_⟩⟩
    refine ite2 (fun h1 => ?_) (fun h1 => ?_)
    · have h1 : wd z.cps.toList = false := by simpa using h1
      exact ⟨_, rfl, rfl, (fun e => by cases e), fun d hd => (q2 h1).go sm hd⟩
    · have h1 : wd z.cps.toList = true := by simpa using h1
      exact ⟨_, rfl, q1 h1 H' sm⟩
end

/-! ## names -/
section
variable {P : Program} {w : World} {K : PySem.W.Frag} {mg : Str → Option Value} {base : Heap}
abbrev s_check_number : Stmt := topS 15
theorem sc_check_number : FnScope ["number", "least", "most"] ["number", "least", "most"] (defScope s_check_number) := ⟨rfl, rfl, rfl, by decide +kernel, rfl, by decide +kernel, by decide +kernel⟩
def spCheckNumber (C : Addr) : Sp := fun vs H Q E => ∃ n lo hi : Int, vs = [.int n, .int lo, .int hi] ∧ (lo ≤ n ∧ n ≤ hi → Q (.int n) H) ∧ (¬ (lo ≤ n ∧ n ≤ hi) → Rais E H C [("number", .int n)])
theorem ok_check_number {k : Nat} {C_BadNumber f_BadNumber : Addr} (X_BadNumber : ErrTxt P K mg false "BadNumber" C_BadNumber f_BadNumber ["number"]) (F : Src K mg "check_number" s_check_number ["number", "least", "most"]) :
    Def P w K mg base (L2.CX P w) (k + 1) "check_number" ["number", "least", "most"] (spCheckNumber C_BadNumber) := by
  refine F.okX sc_check_number (fun vs H Q E h => ?_) (fun f cdv A outer s H vs Q E hr h => ?_)
  · obtain ⟨n, lo, hi, rfl, _⟩ := h
    rfl
  · obtain ⟨n, lo, hi, rfl, q1, q2⟩ := h
    refine ⟨_, (pss_cons (ps_if (PW.pt (pw_or (pt_cmpR op_lt (pv 0) (pv 1) (nomark _)) (pw_or1 (pt_cmpR op_gt (pv 0) (pv 2) (nomark _))))) (pss_one (ps_raiseE rfl X_BadNumber hr (takes_of rfl rfl rfl rfl) (pa_cons (pv 0) pa_nil))) pss_nil)
 (pss_one (ps_ret (pv 0)))), ?_⟩
    refine ⟨_, rfl, _, rfl, _, _, rfl, rfl, _, rfl, ?_⟩
    refine ite2 (fun h1 => ?_) (fun h1 => ?_)
    · have h1 : n < lo := of_decide_eq_true h1
      exact iteT ⟨_, rfl, rfl, (fun e => by cases e), fun d hd => (q2 (by omega)).go (Same.refl H) hd⟩
    · have h1 : ¬ n < lo := by simpa using h1
      refine ⟨_, rfl, _, rfl, _, _, rfl, rfl, _, rfl, ?_⟩
      refine ite2 (fun h2 => ?_) (fun h2 => ?_)
      · have h2 : hi < n := of_decide_eq_true h2
        exact ⟨_, rfl, rfl, (fun e => by cases e), fun d hd => (q2 (by omega)).go (Same.refl H) hd⟩
      · have h2 : ¬ hi < n := by simpa using h2
        exact ⟨_, rfl, q1 (by omega)⟩
abbrev s_check_names : Stmt := topS 16
theorem sc_check_names : FnScope ["names", "known", "seen", "name"] ["names", "known"] (defScope s_check_names) := ⟨rfl, rfl, rfl, by decide +kernel, rfl, by decide +kernel, by decide +kernel⟩
def spCheckNames (K : PySem.W.Frag) (CU CD : Addr) : Sp := fun vs H Q E => ∃ (a c : Addr) (ws ks : List Str), vs = [.ref a, .ref c] ∧ SqL K H a (ws.map V.str) ∧ Sq K H c (ks.map V.str) ∧ ws.length ≤ 1000 ∧
  (chk ks [] ws = none → ∀ (p : Addr) (H' : Hp), H p = none → Same H H' → H' p = some (.tup (ws.map V.str)) → Q (.ref p) H') ∧
  (∀ n, chk ks [] ws = some (true, n) → Rais E H CU [("name", .str n)]) ∧ (∀ n, chk ks [] ws = some (false, n) → Rais E H CD [("name", .str n)])
theorem ok_check_names {k : Nat} {C_UnknownName f_UnknownName C_DoubleName f_DoubleName : Addr} (B : Bl mg) (X_UnknownName : ErrTxt P K mg false "UnknownName" C_UnknownName f_UnknownName ["name"]) (X_DoubleName : ErrTxt P K mg false "DoubleName" C_DoubleName f_DoubleName ["name"])
    (F : Src K mg "check_names" s_check_names ["names", "known"]) : Def P w K mg base (L2.CX P w) (k + 1) "check_names" ["names", "known"] (spCheckNames K C_UnknownName C_DoubleName) := by
  refine F.okX sc_check_names (fun vs H Q E h => ?_) (fun f cdv A outer s H vs Q E hr h => ?_)
  · obtain ⟨a, c, ws, ks, rfl, _⟩ := h
    rfl
  · obtain ⟨a, c, ws, ks, rfl, ha, hc, hlen, q1, q2, q3⟩ := h
    refine ⟨_, (pss_cons (ps_asg (pe_lst pa_nil) (pg_name (i := 2) sc_check_names.nd rfl (Or.inl rfl)))
 (pss_cons (ps_for (passes_of rfl) rfl (kpi_list (K := K) (pv 0)) (pg_name (i := 3) sc_check_names.nd rfl (Or.inl rfl)) (pss_cons (ps_if (pt_cmpR (kop_notIn (K := K)) (pv 3) (pv 1) rfl) (pss_one (ps_raiseE rfl X_UnknownName hr (takes_of rfl rfl rfl rfl) (pa_cons (pv 3) pa_nil))) pss_nil)
 (pss_cons (ps_if (pt_cmpR (kop_in (K := K)) (pv 3) (pv 2) rfl) (pss_one (ps_raiseE rfl X_DoubleName hr (takes_of rfl rfl rfl rfl) (pa_cons (pv 3) pa_nil))) pss_nil)
 (pss_one (ps_expr (pe_bm PySem.F.plainAttrs_list PySem.F.slot_list_append PySem.F.type_list_append mt_append (pv 2) (pa_cons (pv 3) pa_nil)))))))
 (pss_one (ps_ret (pe_callTy (kcall_tuple (K := K)) (by rfl) B.tuple' (by decide +kernel) (pa_cons (pv 2) pa_nil)))))), ?_⟩
    refine ⟨Nat.zero_le _, fun D nD => ?_⟩
    have s1 : Same H (upd H D (.lst [])) := same_upd nD
    refine ⟨_, rfl, a, rfl, ⟨_, s1.seq ha⟩, for_list (K := K) (a := a) (xs := ws.map V.str) (fun i σ H' => ∃ y, σ = [some (.ref a), some (.ref c), some (.ref D), y] ∧ Same H H' ∧ H' D = some (.lst ((ws.take i).map V.str)) ∧ chk ks [] ws = chk ks (ws.take i) (ws.drop i))
      ⟨none, rfl, s1, upd_same, rfl⟩ (fun i σ H' _ h' => by obtain ⟨_, _, sm, _⟩ := h'; exact sm.seq ha) ?_ ?_⟩
    · rintro i x σ H' hi ⟨y, rfl, sm, hD, hk⟩
      obtain ⟨n, hn, rfl⟩ := map_get hi
      have hdr : ws.drop i = n :: ws.drop (i + 1) := List.drop_eq_getElem?_toList_append.trans (by rw [hn]; rfl)
      rw [hdr, chk_cons] at hk
      refine ⟨_, rfl, _, rfl, c, _, rfl, sm.sq hc, rfl, flat_strs _, _, rfl, ?_⟩
      rw [inV_strs]
      refine ite2 (fun h1 => ?_) (fun h1 => ?_)
      · have h1 : n ∉ ks := by simpa using h1
        rw [if_neg h1] at hk
        exact ⟨_, rfl, rfl, (fun e => by cases e), fun d hd => (q2 n hk).go sm hd⟩
      · have h1 : n ∈ ks := by simpa using h1
        rw [if_pos h1] at hk
        refine ⟨_, rfl, _, rfl, D, _, rfl, .inl (SqL.of hD), rfl, flat_strs _, _, rfl, ?_⟩
        rw [inV_strs]
        refine ite2 (fun h2 => ?_) (fun h2 => ?_)
        · have h2 : n ∈ ws.take i := by simpa using h2
          rw [if_pos h2] at hk
          exact ⟨_, rfl, rfl, (fun e => by cases e), fun d hd => (q3 n hk).go sm hd⟩
        · have h2 : n ∉ ws.take i := by simpa using h2
          rw [if_neg h2] at hk
          refine ⟨_, rfl, .inl ⟨rfl, _, SqL.of hD⟩, _, rfl, D, _, _, rfl, rfl, hD, ?_, ?_⟩
          · rw [List.length_map, List.length_take]
            exact small1000 (by omega)
          · refine ⟨_, rfl, fun b o e => ?_, ?_, ?_⟩
            · rw [upd_ne (ne_of_none e nD)]
              exact sm b o e
            · rw [upd_same, take_more hn, List.map_append]
              rfl
            · rw [take_more hn]
              exact hk
    · rintro σ H' ⟨y, rfl, sm, hD, hk⟩
      rw [List.length_map, List.take_length] at hD
      rw [List.length_map, List.drop_length] at hk
      exact ⟨_, rfl, D, _, rfl, .inl ⟨SqL.of hD, fun l hl => q1 hk l _ (sm.free hl) (sm.trans (same_upd hl)) upd_same⟩⟩
end

/-! ## lword -/
section
variable {P : Program} {w : World} {K : PySem.W.Frag} {mg : Str → Option Value} {base : Heap}
abbrev s__law_word : Stmt := topS 26
theorem sc__law_word : FnScope ["_law_box_here", "_law_letters", "_law_signs", "_law_size", "_law_word_here", "_law_k"] ["_law_box_here"] (defScope s__law_word) := ⟨rfl, rfl, rfl, by decide +kernel, rfl, by decide +kernel, by decide +kernel⟩
theorem get_in {l : List Nat} {n : Int} (h0 : 0 ≤ n) (h1 : n < l.length) : ∃ c, atI l n = some c ∧ c ∈ l := by
  obtain ⟨j, rfl⟩ : ∃ j : Nat, n = j := ⟨n.toNat, by omega⟩
  have hj : j < l.length := by omega
  exact ⟨l[j], atI_nat (List.getElem?_eq_getElem hj), List.getElem_mem hj⟩
theorem okc_sign {c : Nat} (h : c ∈ (LETTERS ++ DIGITS).cps.toList) : okc c = true := by
  rw [show (LETTERS ++ DIGITS).cps.toList = LETTERS.cps.toList ++ DIGITS.cps.toList by decide] at h
  unfold okc
  rw [Bool.or_eq_true, decide_eq_true_iff, decide_eq_true_iff]
  exact List.mem_append.mp h
def spWord : Sp := fun vs H Q _ => ∃ b l : Addr, vs = [.ref b] ∧ Box H b l ∧ ∀ (z : Str) (H' : Hp), Wd z → Bx b l H H' → Q (.str z) H'
theorem ok_word {k : Nat} (B : Bl mg) (D__law_next : Def P w K mg base CX0 k "_law_next" ["_law_box_here", "_law_many"] spNext) (F : Src K mg "_law_word" s__law_word ["_law_box_here"]) : Def P w K mg base CX0 (k + 1) "_law_word" ["_law_box_here"] spWord := by
  refine F.ok sc__law_word (fun vs H Q E h => ?_) (fun f cdv A outer s H vs Q E hr h => ?_)
  · obtain ⟨b, l, rfl, _⟩ := h
    rfl
  · obtain ⟨b, l, rfl, hb, q⟩ := h
    refine ⟨_, (pss_cons (ps_asg pe_str (pg_name (i := 1) sc__law_word.nd rfl (Or.inl rfl)))
 (pss_cons (ps_asg (pe_op op_add_str (pv 1) pe_str) (pg_name (i := 2) sc__law_word.nd rfl (Or.inl rfl)))
 (pss_cons (ps_asg (pe_op op_add pe_int (pe_def D__law_next hr pass0 (pa_cons (pv 0) (pa_cons pe_int pa_nil)))) (pg_name (i := 3) sc__law_word.nd rfl (Or.inl rfl)))
 (C8.pss_cut (ps_if (pt_cmpR op_eq (pe_def D__law_next hr pass0 (pa_cons (pv 0) (pa_cons pe_int pa_nil))) pe_int (nomark _)) (pss_one (ps_asg pe_int (pg_name (i := 3) sc__law_word.nd rfl (Or.inl rfl)))) pss_nil)
 (pss_cons (ps_asg (pe_ix ix_str (pv 1) (pe_def D__law_next hr pass0 (pa_cons (pv 0) (pa_cons pe_int pa_nil))) (fun _ _ => rfl)) (pg_name (i := 4) sc__law_word.nd rfl (Or.inl rfl)))
 (pss_cons (ps_for PassesOwn.never rfl (pi_range1 (by rfl) B.range (pa_cons (pe_op op_sub (pv 3) pe_int) pa_nil)) (pg_name (i := 5) sc__law_word.nd rfl (Or.inl rfl)) (pss_one (ps_asg (pe_op op_add_str (pv 4) (pe_ix ix_str (pv 2) (pe_def D__law_next hr pass0 (pa_cons (pv 0) (pa_cons pe_int pa_nil))) (fun _ _ => rfl))) (pg_name (i := 4) sc__law_word.nd rfl (Or.inl rfl)))))
 (pss_one (ps_ret (pv 4))))))))), ?_⟩
    refine ⟨_, rfl, _, _, rfl, rfl, by decide, ?_⟩
    refine ⟨_, rfl, b, l, 3, rfl, by decide, by decide, hb, fun n H1 n0 n1 s1 => ⟨_, _, rfl, rfl, ?_⟩⟩
    refine ⟨fun σ' H' => ∃ m : Int, 1 ≤ m ∧ m ≤ 12 ∧ σ' = [some (.ref b), some (.str LETTERS), some (.str (LETTERS ++ DIGITS)), some (.int m), none, none] ∧ Bx b l H H', ?_, ?_⟩
    · refine ⟨_, rfl, b, l, 8, rfl, by decide, by decide, s1.b1, fun n2 H2 _ _ s2 => ⟨rfl, _, rfl, ?_⟩⟩
      refine ite2 (fun h1 => ?_) (fun h1 => ?_)
      · exact ⟨12, by omega, by omega, rfl, s1.trans s2⟩
      · exact ⟨1 + n, by omega, by omega, rfl, s1.trans s2⟩
    · rintro σ' H' ⟨m, m1, m2, rfl, sm⟩
      refine ⟨_, rfl, _, rfl, b, l, 26, rfl, by decide, by decide, sm.b1, fun n3 H3 c0 c1 s3 => ?_⟩
      obtain ⟨c, hc, hcm⟩ := get_in (l := LETTERS.cps.toList) c0 (by show n3 < 26; exact c1)
      refine ⟨_, _, c, rfl, rfl, by decide, hc, ?_⟩
      refine ⟨_, rfl, _, _, rfl, rfl, m - 1, rfl, by omega, by omega, for_range (lo := 0) (n := (m - 1).toNat) (fun i σ H2 => ∃ (z : Str) (r : List Nat) (y : Option V), z.cps.toList = c :: r ∧ r.length = i ∧ (∀ d ∈ r, okc d = true) ∧ σ = [some (.ref b), some (.str LETTERS), some (.str (LETTERS ++ DIGITS)), some (.int m), some (.str z), y] ∧ Bx b l H H2)
        ⟨⟨#[c]⟩, [], none, rfl, rfl, (fun d hd => by cases hd), rfl, sm.trans s3⟩ ?_ ?_⟩
      · rintro i σ H2 hi ⟨z, r, y, hz, hr1, hr2, rfl, sm2⟩
        refine ⟨_, rfl, _, rfl, _, rfl, b, l, 36, rfl, by decide, by decide, sm2.b1, fun n4 H5 d0 d1 s5 => ?_⟩
        obtain ⟨c2, hc2, hcm2⟩ := get_in (l := (LETTERS ++ DIGITS).cps.toList) d0 (by show n4 < 36; exact d1)
        refine ⟨_, _, c2, rfl, rfl, by decide, hc2, _, _, rfl, rfl, ?_, ?_⟩
        · show z.length + 1 ≤ sizeLine
          rw [len_cps, hz, List.length_cons]
          exact Nat.le_trans (show r.length + 1 + 1 ≤ 1000 by omega) (by decide)
        · refine ⟨z ++ ⟨#[c2]⟩, r ++ [c2], _, ?_, by rw [List.length_append, hr1]; rfl, fun d hd => ?_, rfl, sm2.trans s5⟩
          · rw [Str.cps_append, Array.toList_append, hz]
            rfl
          · rcases List.mem_append.mp hd with h | h
            · exact hr2 d h
            · rw [List.mem_singleton.mp h]
              exact okc_sign hcm2
      · rintro σ H2 ⟨z, r, y, hz, hr1, hr2, rfl, sm2⟩
        refine ⟨_, rfl, q z H2 ?_ sm2⟩
        show wd z.cps.toList = true
        rw [hz]
        exact wd_cons hcm hr2 (by omega)
abbrev s__law_words : Stmt := topS 27
theorem sc__law_words : FnScope ["_law_box_here", "_law_many", "_law_words_here", "_law_turn", "_law_word_here", "_law_spare", "_law_k", "_law_other"] ["_law_box_here", "_law_many"] (defScope s__law_words) := ⟨rfl, rfl, rfl, by decide +kernel, rfl, by decide +kernel, by decide +kernel⟩
def spWords : Sp := fun vs H Q _ => ∃ (b l : Addr) (many : Nat), vs = [.ref b, .int many] ∧ many ≤ 30 ∧ Box H b l ∧ ∀ (p : Addr) (ws : List Str) (H' : Hp), ws.length = many → ws.Nodup → (∀ z ∈ ws, Wd z) → H p = none → Bx b l H H' → H' p = some (.lst (ws.map V.str)) → Q (.ref p) H'
theorem ok_words {k : Nat} (B : Bl mg) (D__law_word : Def P w K mg base CX0 k "_law_word" ["_law_box_here"] spWord) (F : Src K mg "_law_words" s__law_words ["_law_box_here", "_law_many"]) : Def P w K mg base CX0 (k + 1) "_law_words" ["_law_box_here", "_law_many"] spWords := by
  refine F.ok sc__law_words (fun vs H Q E h => ?_) (fun f cdv A outer s H vs Q E hr h => ?_)
  · obtain ⟨b, l, many, rfl, _⟩ := h
    rfl
  · obtain ⟨b, l, many, rfl, hm, hb, q⟩ := h
    refine ⟨_, (pss_cons (ps_asg (pe_lst pa_nil) (pg_name (i := 2) sc__law_words.nd rfl (Or.inr rfl)))
 (pss_cons (ps_for PassesOwn.never rfl (pi_range1 (by rfl) B.range (pa_cons (pv 1) pa_nil)) (pg_name (i := 3) sc__law_words.nd rfl (Or.inl rfl)) (pss_cons (ps_asg (pe_def D__law_word hr pass0 (pa_cons (pv 0) pa_nil)) (pg_name (i := 4) sc__law_words.nd rfl (Or.inr rfl)))
 (C8.pss_cut (ps_if (pt_cmpR (kop_in (K := K)) (pv 4) (pv 2) rfl) (pss_cons (ps_setLc (i := 5) (own := [("_law_k", 6)]) (g := gName 6) (by rfl) sc__law_words.nd rfl rfl (sw_true rfl rfl rfl (by decide +kernel)) (pi_range1 (by rfl) B.range (pa_cons pe_int pa_nil)) (blkOk_by (N := ["_law_box_here", "_law_many", "_law_words_here", "_law_turn", "_law_word_here", "_law_spare", "_law_k", "_law_other"]) (sc := defScope s__law_words) (by decide +kernel)) (fun _ _ _ _ _ => (pg_name (i := 6) sc__law_words.nd rfl (Or.inl rfl))) (fun _ _ _ _ _ => pts_nil) (fun _ _ _ _ _ => (pe_op op_add_str (pe_op op_add_str (pe_slice sl_str (pv 4) po_none (po_some pe_int)) pe_str) (pe_callTy call_str_int (by rfl) B.str' (by decide +kernel) (pa_cons (pv 6) pa_nil)))))
 (pss_cons (ps_setLc (i := 5) (own := [("_law_other", 7)]) (g := gName 7) (by rfl) sc__law_words.nd rfl rfl (sw_true rfl rfl rfl (by decide +kernel)) (kpi_list (K := K) (pv 5)) (blkOk_by (N := ["_law_box_here", "_law_many", "_law_words_here", "_law_turn", "_law_word_here", "_law_spare", "_law_k", "_law_other"]) (sc := defScope s__law_words) (by decide +kernel)) (fun _ _ _ _ _ => (pg_name (i := 7) sc__law_words.nd rfl (Or.inl rfl))) (fun _ _ _ _ _ => pts_one (pt_cmpR (kop_notIn (K := K)) (pv 7) (pv 2) rfl)) (fun _ _ _ _ _ => (pv 7)))
 (pss_one (ps_asg (pe_ix (kix_list (K := K)) (pv 5) pe_int (fun _ _ => rfl)) (pg_name (i := 4) sc__law_words.nd rfl (Or.inr rfl)))))) pss_nil)
 (pss_one (ps_expr (pe_bm PySem.F.plainAttrs_list PySem.F.slot_list_append PySem.F.type_list_append mt_append (pv 2) (pa_cons (pv 4) pa_nil)))))))
 (pss_one (ps_ret (pv 2))))), ?_⟩
    refine ⟨Nat.zero_le _, fun D nD => ?_⟩
    refine ⟨_, rfl, many, rfl, by omega, by omega, for_range (lo := 0) (n := many) (fun i σ H' => ∃ (ws : List Str) (y1 y2 y3 : Option V), σ = [some (.ref b), some (.int many), some (.ref D), y1, y2, y3, none, none] ∧ ws.length = i ∧ ws.Nodup ∧ (∀ z ∈ ws, Wd z) ∧ Bx b l H H' ∧ H' D = some (.lst (ws.map V.str)))
      ⟨[], none, none, none, rfl, rfl, List.nodup_nil, (fun z hz => by cases hz), hb.bx.new nD, upd_same⟩ ?_ ?_⟩
    · rintro i σ H' hi ⟨ws, y1, y2, y3, rfl, hl, hn, hw, sm, hD⟩
      refine ⟨_, rfl, b, l, rfl, sm.b1, fun z H2 hz s2 => ?_⟩
      have hD2 : H2 D = some (.lst (ws.map V.str)) := s2.at hD (hb.neb nD)
      have sm2 := sm.trans s2
      -- behind the if the word is new
      refine ⟨fun σ' H3 => ∃ (z' : Str) (y3 : Option V), σ' = [some (.ref b), some (.int many), some (.ref D), some (.int (0 + (i : Nat))), some (.str z'), y3, none, none] ∧ Wd z' ∧ z' ∉ ws ∧ Bx b l H H3 ∧ H3 D = some (.lst (ws.map V.str)), ?_, ?_⟩
      · refine ⟨_, rfl, _, rfl, D, _, rfl, .inl (SqL.of hD2), rfl, flat_strs _, _, rfl, ?_⟩
        rw [inV_strs]
        refine ite2 (fun h1 => ?_) (fun h1 => ?_)
        · -- thirty spares
          refine ⟨30, rfl, by decide, by decide, fun G nG => lc_range (lo := 0) (n := 30) (fun j H3 => Same H2 H3 ∧ H3 G = some (.lst (((List.range j).map (spare z)).map V.str))) ⟨same_upd nG, upd_same⟩ ?_ ?_⟩
          · rintro j H3 hj ⟨s3, hG⟩
            have l1 := cutS_length z none (some 9)
            have l2 := hz.len
            have hd := List.all_eq_true.mp digs30 j (List.mem_range.mpr hj)
            rw [Bool.and_eq_true, decide_eq_true_iff] at hd
            refine ⟨rfl, yes_if ?_⟩
            refine ⟨_, rfl, _, rfl, z, rfl, Nat.le_trans l2 (by decide), _, _, rfl, rfl, ?_, ?_⟩
            · show _ + 1 ≤ sizeLine
              exact Nat.le_trans (show _ + 1 ≤ 1000 by omega) (by decide)
            · refine ⟨_, rfl, (0 + (j : Nat) : Int), rfl, ?_, _, _, rfl, rfl, ?_, ?_⟩
              · have : (0 + (j : Nat) : Int).natAbs ≤ 2 ^ 10 := by omega
                exact Nat.lt_of_le_of_lt (Nat.log2_le_self _) (by omega)
              · rw [Str.length_append, Int.zero_add]
                show _ + 1 + (toString (j : Int) : Str).cps.toList.length ≤ sizeLine
                exact Nat.le_trans (show _ ≤ 1000 by omega) (by decide)
              · refine ⟨_, hG, ?_, fun b' o e => ?_, ?_⟩
                · rw [List.length_map, List.length_map, List.length_range]
                  exact small1000 (by omega)
                · rw [upd_ne (ne_of_none e nG)]
                  exact s3 b' o e
                · rw [upd_same, List.range_succ, List.map_append, List.map_append, Int.zero_add]
                  rfl
          · rintro H3 ⟨s3, hG⟩
            -- those that are not there yet
            have hD3 := s3 _ _ hD2
            refine ⟨_, rfl, G, rfl, ⟨_, SqL.of hG⟩, fun G2 nG2 => lc_list (K := K) (a := G) (xs := (spares z).map V.str) (fun j H4 => Same H3 H4 ∧ H4 G2 = some (.lst ((((spares z).take j).filter (fun o => decide (o ∉ ws))).map V.str))) ⟨same_upd nG2, upd_same⟩ (fun j H4 _ h4 => h4.1.seq (SqL.of hG)) ?_ ?_⟩
            · rintro j x H4 hj ⟨s4, hG2⟩
              obtain ⟨o, ho, rfl⟩ := map_get hj
              have hD4 := s4 _ _ hD3
              refine ⟨rfl, _, rfl, _, rfl, D, _, rfl, .inl (SqL.of hD4), rfl, flat_strs _, _, rfl, ?_⟩
              rw [inV_strs]
              have ht : ((spares z).take (j + 1)).filter (fun o => decide (o ∉ ws)) = ((spares z).take j).filter (fun o => decide (o ∉ ws)) ++ if o ∈ ws then [] else [o] := by
                rw [take_more ho, List.filter_append]
                by_cases h : o ∈ ws <;> simp [List.filter, h]
              refine ite2 (fun h2 => ?_) (fun h2 => ?_)
              · have h2 : o ∉ ws := by simpa using h2
                refine ⟨_, rfl, _, hG2, ?_, fun b' o' e => ?_, ?_⟩
                · rw [List.length_map]
                  refine small1000 (Nat.le_trans (List.length_filter_le _ _) ?_)
                  rw [List.length_take]
                  unfold spares
                  rw [List.length_map, List.length_range]
                  omega
                · rw [upd_ne (ne_of_none e nG2)]
                  exact s4 b' o' e
                · rw [upd_same, ht, if_neg h2, List.map_append]
                  rfl
              · have h2 : o ∈ ws := by simpa using h2
                refine ⟨s4, ?_⟩
                rw [ht, if_pos h2, List.append_nil]
                exact hG2
            · rintro H4 ⟨s4, hG2⟩
              rw [List.length_map, List.take_length] at hG2
              obtain ⟨y, r, e⟩ := spare_some (z := z) (ws := ws) (by omega)
              have hy : y ∈ (spares z).filter (fun o => decide (o ∉ ws)) := by rw [e]; exact List.mem_cons_self ..
              rw [e] at hG2
              obtain ⟨hy1, hy2⟩ := List.mem_filter.mp hy
              refine ⟨_, rfl, G2, _, _, _, rfl, rfl, SqL.of hG2, atI_nat (j := 0) (v := V.str y) rfl, ?_⟩
              exact ⟨y, _, rfl, spares_wd hz hy1, of_decide_eq_true hy2, (sm2.same s3).same s4, s4 _ _ hD3⟩
        · have h1 : z ∉ ws := by simpa using h1
          exact ⟨z, _, rfl, hz, h1, sm2, hD2⟩
      · rintro σ' H3 ⟨z', y3, rfl, hz', hni, sm3, hD3⟩
        refine ⟨_, rfl, .inl ⟨rfl, _, SqL.of hD3⟩, _, rfl, D, _, _, rfl, rfl, hD3, ?_, ?_⟩
        · rw [List.length_map]
          exact small1000 (by omega)
        · refine ⟨ws ++ [z'], _, _, _, rfl, by rw [List.length_append, hl]; rfl, ?_, fun x hx => ?_, sm3.mut nD, ?_⟩
          · rw [List.nodup_append]
            refine ⟨hn, by simp, fun a ha c hc e => hni ?_⟩
            rw [← List.mem_singleton.mp hc, ← e]
            exact ha
          · rcases List.mem_append.mp hx with h | h
            · exact hw x h
            · rw [List.mem_singleton.mp h]
              exact hz'
          · rw [upd_same, List.map_append]
            rfl
    · rintro σ H' ⟨ws, y1, y2, y3, rfl, hl, hn, hw, sm, hD⟩
      exact ⟨_, rfl, q D ws H' hl hn hw nD sm hD⟩
end

/-! ## plan -/
section
variable {P : Program} {w : World} {K : PySem.W.Frag} {mg : Str → Option Value} {base : Heap}
abbrev s_in_order : Stmt := topS 21
theorem sc_in_order : FnScope ["names", "places", "known", "place"] ["names", "places"] (defScope s_in_order) := ⟨rfl, rfl, rfl, by decide +kernel, rfl, by decide +kernel, by decide +kernel⟩
def spInOrder (K : PySem.W.Frag) (cs : ECs) : Sp := fun vs H Q E => ∃ (a c : Addr) (ws ks : List Str), vs = [.ref a, .ref c] ∧ SqL K H a (ws.map V.str) ∧ SqT K H c (ks.map V.str) ∧ ws.length ≤ 1000 ∧ ks.length ≤ 1000 ∧
  (chk ks [] ws = none → ∀ (p : Addr) (H' : Hp), H p = none → Same H H' → H' p = some (.tup ((inOrd ks ws).map V.str)) → Q (.ref p) H') ∧ (∀ x, chk ks [] ws = some x → RaisP cs E H (nameErr x))
theorem ok_in_order {k : Nat} {cs : ECs} (B : Bl mg) (D_check_names : Def P w K mg base (L2.CX P w) k "check_names" ["names", "known"] (spCheckNames K cs.unknown cs.double))
    (F : Src K mg "in_order" s_in_order ["names", "places"]) : Def P w K mg base (L2.CX P w) (k + 1) "in_order" ["names", "places"] (spInOrder K cs) := by
  refine F.okX sc_in_order (fun vs H Q E h => ?_) (fun f cdv A outer s H vs Q E hr h => ?_)
  · obtain ⟨a, c, ws, ks, rfl, _⟩ := h
    rfl
  · obtain ⟨a, c, ws, ks, rfl, ha, hc, hl1, hl2, q1, q2⟩ := h
    refine ⟨_, (pss_cons (ps_asg (pe_def D_check_names hr (passes_call (takes_of rfl rfl rfl rfl) (fun _ _ _ _ h => h)) (pa_cons (pv 0) (pa_cons (pv 1) pa_nil))) (pg_name (i := 2) sc_in_order.nd rfl (Or.inr rfl)))
 (pss_one (ps_ret (pe_callTy (kcall_tuple (K := K)) (by rfl) B.tuple' (by decide +kernel) (pa_cons (pe_lc (own := [("place", 3)]) (g := gName 3) (by rfl) sc_in_order.nd (kpi_tup (K := K) (pv 1)) (blkOk_by (N := ["names", "places", "known", "place"]) (sc := defScope s_in_order) (by decide +kernel)) (fun _ _ _ _ _ => (pg_name (i := 3) sc_in_order.nd rfl (Or.inl rfl))) (fun _ _ _ _ _ => pts_one (pt_cmpR (kop_in (K := K)) (pv 3) (pv 2) rfl)) (fun _ _ _ _ _ => (pv 3))) pa_nil))))), ?_⟩
    refine ⟨_, rfl, _, rfl, a, c, ws, ks, rfl, ha, .inr hc, hl1, fun hk p H1 np s1 hp => ?_, fun n hk => q2 _ hk, fun n hk => q2 _ hk⟩
    refine ⟨_, rfl, c, rfl, ⟨_, s1.seqT hc⟩, fun D nD => lc_tup (K := K) (a := c) (xs := ks.map V.str) (fun i H' => Same H1 H' ∧ H' D = some (.lst ((inOrd (ks.take i) ws).map V.str))) ⟨same_upd nD, upd_same⟩ (fun i H' _ h' => (s1.trans h'.1).seqT hc) ?_ ?_⟩
    · rintro i x H' hi ⟨sm, hD⟩
      obtain ⟨n, hn, rfl⟩ := map_get hi
      have ht : inOrd (ks.take (i + 1)) ws = inOrd (ks.take i) ws ++ if n ∈ ws then [n] else [] := by
        unfold inOrd
        rw [take_more hn, List.filter_append]
        by_cases h : n ∈ ws <;> simp [List.filter, h]
      refine ⟨rfl, _, rfl, _, rfl, p, _, rfl, .inr (SqT.of (sm _ _ hp)), rfl, flat_strs _, _, rfl, ?_⟩
      rw [inV_strs]
      refine ite2 (fun h1 => ?_) (fun h1 => ?_)
      · have h1 : n ∈ ws := by simpa using h1
        refine ⟨_, rfl, _, hD, ?_, fun b o e => ?_, ?_⟩
        · rw [List.length_map]
          refine small1000 (Nat.le_trans (List.length_filter_le _ _) ?_)
          rw [List.length_take]
          omega
        · rw [upd_ne (ne_of_none e nD)]
          exact sm b o e
        · rw [upd_same, ht, if_pos h1, List.map_append]
          rfl
      · have h1 : n ∉ ws := by simpa using h1
        refine ⟨sm, ?_⟩
        rw [ht, if_neg h1, List.append_nil]
        exact hD
    · rintro H' ⟨sm, hD⟩
      rw [List.length_map, List.take_length] at hD
      refine ⟨D, _, rfl, .inl ⟨SqL.of hD, fun l hl => ?_⟩⟩
      have sm2 := (s1.trans sm).trans (same_upd (o := .tup ((inOrd ks ws).map V.str)) hl)
      exact q1 hk l _ ((s1.trans sm).free hl) sm2 upd_same
/-- what the written part says of the class Plan -/
structure PlanC (K : PySem.W.Frag) (mg : Str → Option Value) (C : Addr) : Prop where
  cl : Cls K C
  gC : mg "Plan" = some (.ref C)
  nP : NoAttr K C "places"
  nB : NoAttr K C "begin"
  nT : NoAttr K C "taken"
  nG : NoAttr K C "given"
  nS : NoAttr K C "steps"
abbrev tRows (ss : List SRow) : List (Str × List Str) := ss.map fun s => (s.1, s.2.1)
abbrev gRows (ss : List SRow) : List (Str × List Str) := ss.map fun s => (s.1, s.2.2)
/-- a plan that is being built: the steps ss are in it -/
structure HalfAt (H : Hp) (C x dx tp tb td tg : Addr) (pl : List Str) (bg : List Int) (ss : List SRow) : Prop where
  hx : H x = some (.ins C dx [("places", .ref tp), ("begin", .ref tb), ("taken", .ref td), ("given", .ref tg)])
  hp : H tp = some (.tup (pl.map V.str))
  hb : H tb = some (.tup (bg.map V.int))
  ne : td ≠ tg
  tabs : ∃ kt kg, H td = some (.dK kt) ∧ H tg = some (.dK kg) ∧ TabAt H kt (tRows ss) ∧ TabAt H kg (gRows ss)
/-- only td and tg may have changed -/
def Same2 (td tg : Addr) (H H' : Hp) : Prop := ∀ a o, a ≠ td → a ≠ tg → H a = some o → H' a = some o
def ordRow (pl : List Str) (r : SRow) : SRow := (r.1, inOrd pl r.2.1, inOrd pl r.2.2)
def SRowAt (K : PySem.W.Frag) (H : Hp) (a b : Addr) (r : SRow) : Prop := SqL K H a (r.2.1.map V.str) ∧ SqL K H b (r.2.2.map V.str) ∧ r.1.length ≤ 1000 ∧ r.2.1.length ≤ 1000 ∧ r.2.2.length ≤ 1000
abbrev s_Plan_put_step : Stmt := inClass (topS 22) 1
theorem sc_Plan_put_step : FnScope ["self", "word", "takes", "gives", "taken"] ["self", "word", "takes", "gives"] (defScope s_Plan_put_step) := ⟨rfl, rfl, rfl, by decide +kernel, rfl, by decide +kernel, by decide +kernel⟩
def spPut (K : PySem.W.Frag) (cs : ECs) (C : Addr) : Sp := fun vs H Q E => ∃ (x dx tp tb td tg a b : Addr) (pl : List Str) (bg : List Int) (ss : List SRow) (r : SRow), vs = [.ref x, .str r.1, .ref a, .ref b] ∧ HalfAt H C x dx tp tb td tg pl bg ss ∧ SRowAt K H a b r ∧ pl.length ≤ 12 ∧ ss.length ≤ 16 ∧
  (stepDue pl (ss.map (·.1)) r = none → ∀ H' : Hp, Same2 td tg H H' → HalfAt H' C x dx tp tb td tg pl bg (ss ++ [ordRow pl r]) → Q .non H') ∧ (∀ e, stepDue pl (ss.map (·.1)) r = some e → RaisP cs E H e)
theorem tRows_names (ss : List SRow) : (tRows ss).map (·.1) = ss.map (·.1) := by
  rw [List.map_map]
  rfl
theorem gRows_names (ss : List SRow) : (gRows ss).map (·.1) = ss.map (·.1) := by
  rw [List.map_map]
  rfl
theorem TabAt.len {H : Hp} {kvs : List (Key × V)} {rows : List (Str × List Str)} (h : TabAt H kvs rows) : kvs.length = rows.length := Paired.len h
theorem ok_put_step {k : Nat} {cs : ECs} {C f_BadWord f_DoubleName f_EmptyStep : Addr} (B : Bl mg) (T_Plan : PlanC K mg C) (X_DoubleName : ErrTxt P K mg false "DoubleName" cs.double f_DoubleName ["name"]) (X_EmptyStep : ErrTxt P K mg false "EmptyStep" cs.empty f_EmptyStep ["name"])
    (D_check_word : Def P w K mg base (L2.CX P w) k "check_word" ["word"] (spCheckWord cs.badWord)) (D_in_order : Def P w K mg base (L2.CX P w) k "in_order" ["names", "places"] (spInOrder K cs))
    (F : SrcM K C "put_step" "Plan.put_step" s_Plan_put_step ["self", "word", "takes", "gives"]) : DefM P w K mg base (L2.CX P w) (k + 1) C "put_step" ["self", "word", "takes", "gives"] (spPut K cs C) := by
  refine F.okX sc_Plan_put_step (fun vs H Q E h => ?_) (fun f cdv A outer s H vs Q E hr h => ?_)
  · obtain ⟨x, dx, tp, tb, td, tg, a, b, pl, bg, ss, r, rfl, _⟩ := h
    rfl
  · obtain ⟨x, dx, tp, tb, td, tg, a, b, pl, bg, ss, r, rfl, hh, ⟨ha, hb, hr1, hr2, hr3⟩, hpl, hss, q1, q2⟩ := h
    obtain ⟨kt, kg, htd, htg, tt, tgg⟩ := hh.tabs
    have hr1' : r.1.length ≤ sizeLine := Nat.le_trans hr1 (by decide)
    refine ⟨_, (pss_cons (ps_expr (pe_def D_check_word hr (passes_call (takes_of rfl rfl rfl rfl) (fun _ _ _ _ h => h)) (pa_cons (pv 1) pa_nil)))
 (pss_cons (ps_if (pt_cmp (pc_din (hu_of hr) (pv 1) (kpe_fld (K := K) (pv 0)))) (pss_one (ps_raiseE rfl X_DoubleName hr (takes_of rfl rfl rfl rfl) (pa_cons (pv 1) pa_nil))) pss_nil)
 (pss_cons (ps_if (pt_cmpR op_eq (pe_callB (kcall_len (K := K)) (by rfl) B.len PySem.boot_len (pa_cons (pv 2) pa_nil)) pe_int (nomark _)) (pss_one (ps_raiseE rfl X_EmptyStep hr (takes_of rfl rfl rfl rfl) (pa_cons (pv 1) pa_nil))) pss_nil)
 (pss_cons (ps_asg (pe_def D_in_order hr (passes_call (takes_of rfl rfl rfl rfl) (fun _ _ _ _ h => h)) (pa_cons (pv 2) (pa_cons (kpe_fld (K := K) (pv 0)) pa_nil))) (pg_name (i := 4) sc_Plan_put_step.nd rfl (Or.inl rfl)))
 (pss_cons (ps_dput (hu_of hr) (kpe_fld (K := K) (pv 0)) (pv 1) (pe_def D_in_order hr (passes_call (takes_of rfl rfl rfl rfl) (fun _ _ _ _ h => h)) (pa_cons (pv 3) (pa_cons (kpe_fld (K := K) (pv 0)) pa_nil))) rfl)
 (pss_one (ps_dput (hu_of hr) (kpe_fld (K := K) (pv 0)) (pv 1) (pv 4) rfl))))))), ?_⟩
    unfold stepDue at q1 q2
    refine ⟨_, rfl, r.1, rfl, hr1', fun hw H1 s1 => ?_, fun hw => ?_⟩
    · rw [if_pos hw] at q1 q2
      -- word in self.taken
      refine ⟨_, rfl, _, rfl, x, C, dx, _, _, rfl, s1 _ _ hh.hx, T_Plan.cl, T_Plan.nT, rfl, td, _, rfl, DGet.k (k := Sum.inr r.1) (s1 _ _ htd), _, rfl, ?_⟩
      obtain ⟨v1, v2⟩ := valV_tab tt r.1
      rw [tRows_names] at v1 v2
      by_cases hin : r.1 ∈ ss.map (·.1)
      · obtain ⟨t, l, e, _⟩ := v1 hin
        rw [if_pos hin] at q2
        rw [e]
        exact iteT ⟨_, rfl, rfl, (fun e => by cases e), fun d hd => (q2 _ rfl).go s1 hd⟩
      · rw [if_neg hin] at q1 q2
        rw [v2 hin]
        refine iteF ?_
        -- len(takes) == 0
        refine ⟨_, rfl, a, _, rfl, .inl (s1.seq ha), rfl, _, rfl, ?_⟩
        refine ite2 (fun h1 => ?_) (fun h1 => ?_)
        · have h1 : r.2.1 = [] := by
            have h1 : V.int ((r.2.1.map V.str).length : Int) = V.int 0 := of_decide_eq_true h1
            have h1 : ((r.2.1.map V.str).length : Int) = 0 := V.int.inj h1
            rw [List.length_map] at h1
            exact List.length_eq_zero_iff.mp (by omega)
          rw [if_pos h1] at q2
          exact ⟨_, rfl, rfl, (fun e => by cases e), fun d hd => (q2 _ rfl).go s1 hd⟩
        · have h1 : r.2.1 ≠ [] := fun e => by
            apply h1
            rw [e]
            decide
          rw [if_neg h1] at q1 q2
          -- taken = in_order(takes, self.places)
          refine ⟨_, rfl, _, rfl, x, C, dx, _, _, rfl, s1 _ _ hh.hx, T_Plan.cl, T_Plan.nP, rfl, a, tp, r.2.1, pl, rfl, s1.seq ha, SqT.of (s1 _ _ hh.hp), hr2, by omega, fun hk p H2 np s2 hp => ?_, fun y hk => ?_⟩
          · rw [hk] at q1 q2
            have s12 := s1.trans s2
            refine ⟨_, rfl, _, rfl, x, C, dx, _, _, rfl, s12 _ _ hh.hx, T_Plan.cl, T_Plan.nP, rfl, b, tp, r.2.2, pl, rfl, s12.seq hb, SqT.of (s12 _ _ hh.hp), hr3, by omega, fun hk2 p2 H3 np2 s3 hp2 => ?_, fun y hk2 => ?_⟩
            · rw [hk2] at q1
              have s13 := s12.trans s3
              -- self.given[word] = ..
              have ntd := hh.ne
              have g3 : H3 tg = some (.dK kg) := s13 _ _ htg
              have t3 : H3 td = some (.dK kt) := s13 _ _ htd
              have x3 := s13 _ _ hh.hx
              obtain ⟨w1, w2⟩ := valV_tab tgg r.1
              rw [gRows_names] at w1 w2
              have lk : kt.length < sizeLine := by
                rw [TabAt.len tt, List.length_map]
                exact small1000 (by omega)
              have lg : kg.length < sizeLine := by
                rw [TabAt.len tgg, List.length_map]
                exact small1000 (by omega)
              refine ⟨_, rfl, x, C, dx, _, _, rfl, x3, T_Plan.cl, T_Plan.nG, rfl, _, rfl, tg, _, rfl, DPut.k (k := Sum.inr r.1) g3 lg, ?_⟩
              rw [putK_new _ (w2 hin)]
              have nxg : x ≠ tg := fun e => by rw [e, g3] at x3; cases x3
              have nxt : x ≠ td := fun e => by rw [e, t3] at x3; cases x3
              refine ⟨_, rfl, _, rfl, x, C, dx, _, _, rfl, by rw [upd_ne nxg]; exact x3, T_Plan.cl, T_Plan.nT, rfl, _, rfl, td, _, rfl, DPut.k (k := Sum.inr r.1) (by rw [upd_ne ntd]; exact t3) lk, ?_⟩
              rw [putK_new _ (v2 hin)]
              have kp : ∀ c o, c ≠ td → c ≠ tg → H3 c = some o → (upd (upd H3 tg (.dK (kg ++ [(Sum.inr r.1, .ref p2)]))) td (.dK (kt ++ [(Sum.inr r.1, .ref p)]))) c = some o := fun c o h1 h2 e => by
                rw [upd_ne h1, upd_ne h2]
                exact e
              have ktup : ∀ c l, H3 c = some (.tup l) → (upd (upd H3 tg (.dK (kg ++ [(Sum.inr r.1, .ref p2)]))) td (.dK (kt ++ [(Sum.inr r.1, .ref p)]))) c = some (.tup l) := fun c l e =>
                kp c _ (fun z => by rw [z, t3] at e; cases e) (fun z => by rw [z, g3] at e; cases e) e
              refine q1 rfl _ (fun c o h1 h2 e => kp c o h1 h2 (s13 _ _ e)) ⟨?_, ?_, ?_, ntd, _, _, upd_same, by rw [upd_ne (Ne.symm ntd)]; exact upd_same, ?_, ?_⟩
              · exact kp _ _ nxt nxg x3
              · exact ktup _ _ (s13 _ _ hh.hp)
              · exact ktup _ _ (s13 _ _ hh.hb)
              · show TabAt _ _ ((ss ++ [ordRow pl r]).map fun s => (s.1, s.2.1))
                rw [List.map_append]
                exact Paired.snoc ⟨rfl, p, rfl, ktup _ _ (s3 _ _ hp)⟩ (tt.keep fun t l e => ktup _ _ (s13 _ _ e))
              · show TabAt _ _ ((ss ++ [ordRow pl r]).map fun s => (s.1, s.2.2))
                rw [List.map_append]
                exact Paired.snoc ⟨rfl, p2, rfl, ktup _ _ hp2⟩ (tgg.keep fun t l e => ktup _ _ (s13 _ _ e))
            · rw [hk2] at q2
              intro H' d sm nd hd
              exact q2 _ rfl H' d (s12.trans sm) (s12.free nd) hd
          · rw [hk] at q2
            intro H' d sm nd hd
            exact q2 _ rfl H' d (s1.trans sm) (s1.free nd) hd
    · rw [if_neg (by rw [hw]; exact Bool.false_ne_true)] at q2
      exact q2 _ rfl
abbrev s_Plan___init__ : Stmt := inClass (topS 22) 0
theorem sc_Plan___init__ : FnScope ["self", "places", "steps", "words", "numbers", "word", "number", "takes", "gives"] ["self", "places", "steps"] (defScope s_Plan___init__) := ⟨rfl, rfl, rfl, by decide +kernel, rfl, by decide +kernel, by decide +kernel⟩
def PRowsOk (prs : List (Str × Int)) : Prop := ∀ r ∈ prs, r.1.length ≤ 1000
def SRowsOk (srs : List SRow) : Prop := ∀ r ∈ srs, r.1.length ≤ 1000 ∧ r.2.1.length ≤ 1000 ∧ r.2.2.length ≤ 1000
def spInit (K : PySem.W.Frag) (cs : ECs) (C : Addr) : Sp := fun vs H Q E => ∃ (x dx ap as' : Addr) (prs : List (Str × Int)) (srs : List SRow), vs = [.ref x, .ref ap, .ref as'] ∧ H x = some (.ins C dx []) ∧ PRows H ap prs ∧ SRows H as' srs ∧ PRowsOk prs ∧ SRowsOk srs ∧
  (planDue prs srs = none → ∀ H' : Hp, SameB x H H' → PlanAt H' C x (planOf prs srs) → Q .non H') ∧ (∀ e, planDue prs srs = some e → RaisX cs E x H e)
theorem ok_plan_init {k : Nat} {cs : ECs} {C f_TooMany f_DoubleName : Addr} (B : Bl mg) (T_Plan : PlanC K mg C) (g_MOST_PLACES : Glo mg "MOST_PLACES" (.int 12)) (g_MOST_STEPS : Glo mg "MOST_STEPS" (.int 16)) (g_MOST_BEGIN : Glo mg "MOST_BEGIN" (.int 99))
    (X_TooMany : ErrTxt P K mg true "TooMany" cs.tooMany f_TooMany ["kind", "limit"]) (X_DoubleName : ErrTxt P K mg false "DoubleName" cs.double f_DoubleName ["name"])
    (D_check_word : Def P w K mg base (L2.CX P w) k "check_word" ["word"] (spCheckWord cs.badWord)) (D_check_number : Def P w K mg base (L2.CX P w) k "check_number" ["number", "least", "most"] (spCheckNumber cs.badNumber))
    (DM_Plan_put_step : DefM P w K mg base (L2.CX P w) k C "put_step" ["self", "word", "takes", "gives"] (spPut K cs C))
    (F : SrcI K C "Plan.__init__" s_Plan___init__ ["self", "places", "steps"]) : DefI P w K mg base (L2.CX P w) (k + 1) C ["self", "places", "steps"] (spInit K cs C) := by
  refine F.okX sc_Plan___init__ (fun vs H Q E h => ?_) (fun f cdv A outer s H vs Q E hr h => ?_)
  · obtain ⟨x, dx, ap, as', prs, srs, rfl, _⟩ := h
    rfl
  · obtain ⟨x, dx, ap, as', prs, srs, rfl, hx, hP, hS, okP, okS, q1, q2⟩ := h
    obtain ⟨ta, hpa, pP⟩ := hP
    obtain ⟨sa, hsa, pS⟩ := hS
    have lP : ta.length = prs.length := Paired.len pP
    have lS : sa.length = srs.length := Paired.len pS
    refine ⟨_, (pss_cons (ps_if (pt_cmpR op_gt (pe_callB (kcall_len (K := K)) (by rfl) B.len PySem.boot_len (pa_cons (pv 1) pa_nil)) (pe_glo g_MOST_PLACES) (nomark _)) (pss_one (ps_raiseE rfl X_TooMany hr (takes_of rfl rfl rfl rfl) (pa_cons pe_str (pa_cons (pe_glo g_MOST_PLACES) pa_nil)))) pss_nil)
 (pss_cons (ps_if (pt_cmpR op_gt (pe_callB (kcall_len (K := K)) (by rfl) B.len PySem.boot_len (pa_cons (pv 2) pa_nil)) (pe_glo g_MOST_STEPS) (nomark _)) (pss_one (ps_raiseE rfl X_TooMany hr (takes_of rfl rfl rfl rfl) (pa_cons pe_str (pa_cons (pe_glo g_MOST_STEPS) pa_nil)))) pss_nil)
 (pss_cons (ps_asg (pe_lst pa_nil) (pg_name (i := 3) sc_Plan___init__.nd rfl (Or.inl rfl)))
 (pss_cons (ps_asg (pe_lst pa_nil) (pg_name (i := 4) sc_Plan___init__.nd rfl (Or.inl rfl)))
 (pss_cons (ps_for (passes_of rfl) rfl (kpi_list (K := K) (pv 1)) (pg_tup rfl (pgs_cons (pg_name (i := 5) sc_Plan___init__.nd rfl (Or.inl rfl)) (pgs_cons (pg_name (i := 6) sc_Plan___init__.nd rfl (Or.inl rfl)) pgs_nil))) (pss_cons (ps_expr (pe_def D_check_word hr (passes_call (takes_of rfl rfl rfl rfl) (fun _ _ _ _ h => h)) (pa_cons (pv 5) pa_nil)))
 (pss_cons (ps_if (pt_cmpR (kop_in (K := K)) (pv 5) (pv 3) rfl) (pss_one (ps_raiseE rfl X_DoubleName hr (takes_of rfl rfl rfl rfl) (pa_cons (pv 5) pa_nil))) pss_nil)
 (pss_cons (ps_expr (pe_bm PySem.F.plainAttrs_list PySem.F.slot_list_append PySem.F.type_list_append mt_append (pv 4) (pa_cons (pe_def D_check_number hr (passes_call (takes_of rfl rfl rfl rfl) (fun _ _ _ _ h => h)) (pa_cons (pv 6) (pa_cons pe_int (pa_cons (pe_glo g_MOST_BEGIN) pa_nil)))) pa_nil)))
 (pss_one (ps_expr (pe_bm PySem.F.plainAttrs_list PySem.F.slot_list_append PySem.F.type_list_append mt_append (pv 3) (pa_cons (pv 5) pa_nil))))))))
 (pss_cons (kps_fld (K := K) (pv 0) (pe_callTy (kcall_tuple (K := K)) (by rfl) B.tuple' (by decide +kernel) (pa_cons (pv 3) pa_nil)))
 (pss_cons (kps_fld (K := K) (pv 0) (pe_callTy (kcall_tuple (K := K)) (by rfl) B.tuple' (by decide +kernel) (pa_cons (pv 4) pa_nil)))
 (pss_cons (kps_fld (K := K) (pv 0) pe_dnewK)
 (pss_cons (kps_fld (K := K) (pv 0) pe_dnewK)
 (pss_cons (ps_for (passes_of rfl) rfl (kpi_list (K := K) (pv 2)) (pg_tup rfl (pgs_cons (pg_name (i := 5) sc_Plan___init__.nd rfl (Or.inl rfl)) (pgs_cons (pg_name (i := 7) sc_Plan___init__.nd rfl (Or.inl rfl)) (pgs_cons (pg_name (i := 8) sc_Plan___init__.nd rfl (Or.inl rfl)) pgs_nil)))) (pss_one (ps_expr (pe_metD DM_Plan_put_step T_Plan.cl hr (fun σ => Passes.at (passes_call (takes_of rfl rfl rfl rfl) (fun _ _ _ _ h => h)) σ) (pv 0) (pa_cons (pv 5) (pa_cons (pv 7) (pa_cons (pv 8) pa_nil)))))))
 (pss_one (kps_fld (K := K) (pv 0) (pe_callTy (kcall_tuple (K := K)) (by rfl) B.tuple' (by decide +kernel) (pa_cons (pe_callTy (call_list_dK rfl) (by rfl) B.list' (by decide +kernel) (pa_cons (kpe_fld (K := K) (pv 0)) pa_nil)) pa_nil)))))))))))))), ?_⟩
    unfold planDue at q1 q2
    -- the numbers of places and of steps
    refine ⟨_, rfl, ap, _, rfl, .inl (SqL.of hpa), _, _, rfl, rfl, _, rfl, ?_⟩
    rw [List.length_map, lP]
    refine ite2 (fun h1 => ?_) (fun h1 => ?_)
    · have h1 : 12 < prs.length := by
        have h1 : (12 : Int) < (prs.length : Int) := of_decide_eq_true h1
        omega
      rw [if_pos h1] at q2
      exact ⟨rfl, (fun _ => ⟨_, _, rfl, by decide⟩), fun d hd => (q2 _ rfl).go (SameB.refl x H) hd ⟨_, hx⟩⟩
    · have h1 : ¬ 12 < prs.length := fun e => h1 (decide_eq_true (by omega))
      rw [if_neg h1] at q1 q2
      refine ⟨_, rfl, as', _, rfl, .inl (SqL.of hsa), _, _, rfl, rfl, _, rfl, ?_⟩
      rw [List.length_map, lS]
      refine ite2 (fun h2 => ?_) (fun h2 => ?_)
      · have h2 : 16 < srs.length := by
          have h2 : (16 : Int) < (srs.length : Int) := of_decide_eq_true h2
          omega
        rw [if_pos h2] at q2
        exact ⟨rfl, (fun _ => ⟨_, _, rfl, by decide⟩), fun d hd => (q2 _ rfl).go (SameB.refl x H) hd ⟨_, hx⟩⟩
      · have h2 : ¬ 16 < srs.length := fun e => h2 (decide_eq_true (by omega))
        rw [if_neg h2] at q1 q2
        -- words = [], numbers = []
        refine ⟨Nat.zero_le _, fun D1 n1 => ⟨Nat.zero_le _, fun D2 n2 => ?_⟩⟩
        have n12 : D1 ≠ D2 := fun e => by rw [← e, upd_same] at n2; cases n2
        have s1 := (same_upd (o := .lst []) n1).trans (same_upd (o := .lst []) n2)
        have n2' : H D2 = none := (same_upd n1).free n2
        refine ⟨_, rfl, ap, rfl, ⟨_, SqL.of (s1 _ _ hpa)⟩, for_list (K := K) (a := ap) (xs := ta.map V.ref) (fun i σ H' => ∃ y1 y2, σ = [some (.ref x), some (.ref ap), some (.ref as'), some (.ref D1), some (.ref D2), y1, y2, none, none] ∧ Same H H' ∧ H' D1 = some (.lst (((prs.take i).map (·.1)).map V.str)) ∧ H' D2 = some (.lst (((prs.take i).map (·.2)).map V.int)) ∧ placesDue [] prs = placesDue ((prs.take i).map (·.1)) (prs.drop i))
          ⟨none, none, rfl, s1, by rw [upd_ne n12]; exact upd_same, upd_same, rfl⟩ (fun i σ H' _ h' => by obtain ⟨_, _, _, sm, _⟩ := h'; exact SqL.of (sm _ _ hpa)) ?_ ?_⟩
        · rintro i v σ H' hi ⟨y1, y2, rfl, sm, hD1, hD2, hk⟩
          obtain ⟨t, ht, rfl⟩ := map_get hi
          obtain ⟨⟨z, n⟩, hzn, htt⟩ := Paired.get pP ht
          have hdr : prs.drop i = (z, n) :: prs.drop (i + 1) := List.drop_eq_getElem?_toList_append.trans (by rw [hzn]; rfl)
          rw [hdr, placesDue_cons] at hk
          have zl : z.length ≤ sizeLine := Nat.le_trans (okP _ (get_mem hzn)) (by decide)
          refine ⟨t, _, rfl, SqT.of (sm _ _ htt), rfl, _, _, rfl, _, _, rfl, rfl, ?_⟩
          refine ⟨_, rfl, z, rfl, zl, fun hw H2 s2 => ?_, fun hw => ?_⟩
          · rw [if_pos hw] at hk
            have sm2 := sm.trans s2
            refine ⟨_, rfl, _, rfl, D1, _, rfl, .inl (SqL.of (s2 _ _ hD1)), rfl, flat_strs _, _, rfl, ?_⟩
            rw [inV_strs]
            refine ite2 (fun h3 => ?_) (fun h3 => ?_)
            · have h3 : z ∈ (prs.take i).map (·.1) := by simpa using h3
              rw [if_pos h3] at hk
              rw [hk] at q2
              exact ⟨_, rfl, rfl, (fun e => by cases e), fun d hd => (q2 _ rfl).go sm2.b hd ⟨_, sm2 _ _ hx⟩⟩
            · have h3 : z ∉ (prs.take i).map (·.1) := by simpa using h3
              rw [if_neg h3] at hk
              refine ⟨_, rfl, .inl ⟨rfl, _, SqL.of (s2 _ _ hD2)⟩, _, rfl, n, 0, 99, rfl, fun hin => ?_, fun hout => ?_⟩
              · rw [if_pos hin] at hk
                refine ⟨D2, _, _, rfl, rfl, s2 _ _ hD2, ?_, ?_⟩
                · rw [List.length_map, List.length_map, List.length_take]
                  exact small1000 (by omega)
                · have e1 : (upd H2 D2 (.lst (((prs.take i).map (·.2)).map V.int ++ [V.int n]))) D1 = some (.lst (((prs.take i).map (·.1)).map V.str)) := by
                    rw [upd_ne n12]
                    exact s2 _ _ hD1
                  refine ⟨_, rfl, .inl ⟨rfl, _, SqL.of e1⟩, _, rfl, D1, _, _, rfl, rfl, e1, ?_, ?_⟩
                  · rw [List.length_map, List.length_map, List.length_take]
                    exact small1000 (by omega)
                  · refine ⟨_, _, rfl, fun b o e => ?_, ?_, ?_, ?_⟩
                    · rw [upd_ne (ne_of_none e n1), upd_ne (ne_of_none e n2')]
                      exact sm2 b o e
                    · rw [upd_same, take_more hzn, List.map_append, List.map_append]
                      rfl
                    · rw [upd_ne (Ne.symm n12), upd_same, take_more hzn, List.map_append, List.map_append]
                      rfl
                    · rw [take_more hzn, List.map_append]
                      exact hk
              · rw [if_neg hout] at hk
                rw [hk] at q2
                intro H' d s3 nd hd
                exact q2 _ rfl H' d (sm2.trans s3).b (sm2.free nd) hd
          · rw [if_neg (by rw [hw]; exact Bool.false_ne_true)] at hk
            rw [hk] at q2
            intro H' d s3 nd hd
            exact q2 _ rfl H' d (sm.trans s3).b (sm.free nd) hd
        · rintro σ H' ⟨y1, y2, rfl, sm, hD1, hD2, hk⟩
          rw [List.length_map, lP, List.take_length] at hD1 hD2
          rw [List.length_map, lP, List.drop_length] at hk
          have hk : placesDue [] prs = none := hk
          rw [hk] at q1 q2
          have x0 : H' x = some (.ins C dx []) := sm _ _ hx
          -- self.places = tuple(words)
          refine ⟨_, rfl, D1, _, rfl, .inl ⟨SqL.of hD1, fun tp ntp => ?_⟩⟩
          have nx1 : x ≠ tp := ne_of_none x0 ntp
          refine ⟨_, rfl, x, C, dx, _, rfl, by rw [upd_ne nx1]; exact x0, T_Plan.cl, T_Plan.nP, by decide, ?_⟩
          have sB1 : SameB x H (upd (upd H' tp (.tup ((prs.map (·.1)).map V.str))) x (.ins C dx (putF "places" (.ref tp) []))) := (sm.b.new ntp).upd
          have x1 : (upd (upd H' tp (.tup ((prs.map (·.1)).map V.str))) x (.ins C dx (putF "places" (.ref tp) []))) x = some (.ins C dx [("places", .ref tp)]) := upd_same
          have p1 : (upd (upd H' tp (.tup ((prs.map (·.1)).map V.str))) x (.ins C dx (putF "places" (.ref tp) []))) tp = some (.tup ((prs.map (·.1)).map V.str)) := by rw [upd_ne (Ne.symm nx1)]; exact upd_same
          have d1 : (upd (upd H' tp (.tup ((prs.map (·.1)).map V.str))) x (.ins C dx (putF "places" (.ref tp) []))) D2 = some (.lst ((prs.map (·.2)).map V.int)) := by
            rw [upd_ne (fun e => by rw [e, x0] at hD2; cases hD2), upd_ne (ne_of_none hD2 ntp)]
            exact hD2
          generalize (upd (upd H' tp (.tup ((prs.map (·.1)).map V.str))) x (.ins C dx (putF "places" (.ref tp) []))) = G1 at sB1 x1 p1 d1
          -- self.begin = tuple(numbers)
          refine ⟨_, rfl, D2, _, rfl, .inl ⟨SqL.of d1, fun tb ntb => ?_⟩⟩
          have nx2 : x ≠ tb := ne_of_none x1 ntb
          refine ⟨_, rfl, x, C, dx, _, rfl, by rw [upd_ne nx2]; exact x1, T_Plan.cl, T_Plan.nB, by show 1 < 1000; decide, ?_⟩
          rw [show putF "begin" (.ref tb) [(("places" : Str), V.ref tp)] = [(("places" : Str), V.ref tp), ("begin", .ref tb)] from rfl]
          have sB2 := (sB1.new (o := .tup ((prs.map (·.2)).map V.int)) ntb).upd (o := .ins C dx [("places", .ref tp), ("begin", .ref tb)])
          have x2 : (upd (upd G1 tb (.tup ((prs.map (·.2)).map V.int))) x (.ins C dx [("places", .ref tp), ("begin", .ref tb)])) x = some (.ins C dx [("places", .ref tp), ("begin", .ref tb)]) := upd_same
          have p2 : (upd (upd G1 tb (.tup ((prs.map (·.2)).map V.int))) x (.ins C dx [("places", .ref tp), ("begin", .ref tb)])) tp = some (.tup ((prs.map (·.1)).map V.str)) := by
            rw [upd_ne (Ne.symm nx1), upd_ne (ne_of_none p1 ntb)]
            exact p1
          have b2 : (upd (upd G1 tb (.tup ((prs.map (·.2)).map V.int))) x (.ins C dx [("places", .ref tp), ("begin", .ref tb)])) tb = some (.tup ((prs.map (·.2)).map V.int)) := by rw [upd_ne (Ne.symm nx2)]; exact upd_same
          generalize (upd (upd G1 tb (.tup ((prs.map (·.2)).map V.int))) x (.ins C dx [("places", .ref tp), ("begin", .ref tb)])) = G2 at sB2 x2 p2 b2
          -- self.taken = {}
          refine fun td ntd => ?_
          have nx3 : x ≠ td := ne_of_none x2 ntd
          refine ⟨_, rfl, x, C, dx, _, rfl, by rw [upd_ne nx3]; exact x2, T_Plan.cl, T_Plan.nT, by show 2 < 1000; decide, ?_⟩
          rw [show putF "taken" (.ref td) [(("places" : Str), V.ref tp), ("begin", .ref tb)] = [(("places" : Str), V.ref tp), ("begin", .ref tb), ("taken", .ref td)] from rfl]
          have sB3 := (sB2.new (o := .dK []) ntd).upd (o := .ins C dx [("places", .ref tp), ("begin", .ref tb), ("taken", .ref td)])
          have x3 : (upd (upd G2 td (.dK [])) x (.ins C dx [("places", .ref tp), ("begin", .ref tb), ("taken", .ref td)])) x = some (.ins C dx [("places", .ref tp), ("begin", .ref tb), ("taken", .ref td)]) := upd_same
          have p3 : (upd (upd G2 td (.dK [])) x (.ins C dx [("places", .ref tp), ("begin", .ref tb), ("taken", .ref td)])) tp = some (.tup ((prs.map (·.1)).map V.str)) := by
            rw [upd_ne (Ne.symm nx1), upd_ne (ne_of_none p2 ntd)]
            exact p2
          have b3 : (upd (upd G2 td (.dK [])) x (.ins C dx [("places", .ref tp), ("begin", .ref tb), ("taken", .ref td)])) tb = some (.tup ((prs.map (·.2)).map V.int)) := by
            rw [upd_ne (Ne.symm nx2), upd_ne (ne_of_none b2 ntd)]
            exact b2
          have t3 : (upd (upd G2 td (.dK [])) x (.ins C dx [("places", .ref tp), ("begin", .ref tb), ("taken", .ref td)])) td = some (.dK []) := by rw [upd_ne (Ne.symm nx3)]; exact upd_same
          have ntdH : H td = none := sB2.free (Ne.symm nx3) ntd
          generalize (upd (upd G2 td (.dK [])) x (.ins C dx [("places", .ref tp), ("begin", .ref tb), ("taken", .ref td)])) = G3 at sB3 x3 p3 b3 t3
          -- self.given = {}
          refine fun tg ntg => ?_
          have nx4 : x ≠ tg := ne_of_none x3 ntg
          refine ⟨_, rfl, x, C, dx, _, rfl, by rw [upd_ne nx4]; exact x3, T_Plan.cl, T_Plan.nG, by show 3 < 1000; decide, ?_⟩
          rw [show putF "given" (.ref tg) [(("places" : Str), V.ref tp), ("begin", .ref tb), ("taken", .ref td)] = [(("places" : Str), V.ref tp), ("begin", .ref tb), ("taken", .ref td), ("given", .ref tg)] from rfl]
          have sB4 := (sB3.new (o := .dK []) ntg).upd (o := .ins C dx [("places", .ref tp), ("begin", .ref tb), ("taken", .ref td), ("given", .ref tg)])
          have ntgH : H tg = none := sB3.free (Ne.symm nx4) ntg
          have half : HalfAt (upd (upd G3 tg (.dK [])) x (.ins C dx [("places", .ref tp), ("begin", .ref tb), ("taken", .ref td), ("given", .ref tg)])) C x dx tp tb td tg (prs.map (·.1)) (prs.map (·.2)) [] := by
            refine ⟨upd_same, ?_, ?_, ne_of_none t3 ntg, [], [], ?_, ?_, .nil, .nil⟩
            · rw [upd_ne (Ne.symm nx1), upd_ne (ne_of_none p3 ntg)]
              exact p3
            · rw [upd_ne (Ne.symm nx2), upd_ne (ne_of_none b3 ntg)]
              exact b3
            · rw [upd_ne (Ne.symm nx3), upd_ne (ne_of_none t3 ntg)]
              exact t3
            · rw [upd_ne (Ne.symm nx4)]
              exact upd_same
          generalize (upd (upd G3 tg (.dK [])) x (.ins C dx [("places", .ref tp), ("begin", .ref tb), ("taken", .ref td), ("given", .ref tg)])) = G4 at sB4 half
          -- the steps
          have nxa : as' ≠ x := fun e => by rw [e, hx] at hsa; cases hsa
          refine ⟨_, rfl, as', rfl, ⟨_, SqL.of (sB4 _ _ nxa hsa)⟩, for_list (K := K) (a := as') (xs := sa.map V.ref) (fun i σ G => ∃ z5 z6 z7 z8, σ = [some (.ref x), some (.ref ap), some (.ref as'), some (.ref D1), some (.ref D2), z5, z6, z7, z8] ∧ SameB x H G ∧ HalfAt G C x dx tp tb td tg (prs.map (·.1)) (prs.map (·.2)) ((srs.take i).map (ordRow (prs.map (·.1)))) ∧ stepsDue (prs.map (·.1)) [] srs = stepsDue (prs.map (·.1)) ((srs.take i).map (·.1)) (srs.drop i))
            ⟨_, _, _, _, rfl, sB4, half, rfl⟩ (fun i σ G _ h' => by obtain ⟨_, _, _, _, _, sm, _⟩ := h'; exact SqL.of (sm _ _ nxa hsa)) ?_ ?_⟩
          · rintro i v σ G hi ⟨z5, z6, z7, z8, rfl, sg, hg, hk5⟩
            obtain ⟨t, ht, rfl⟩ := map_get hi
            obtain ⟨r, hr5, b5, c5, htt, hb5, hc5, _⟩ := Paired.get pS ht
            have hdr : srs.drop i = r :: srs.drop (i + 1) := List.drop_eq_getElem?_toList_append.trans (by rw [hr5]; rfl)
            rw [hdr, stepsDue_cons] at hk5
            have nxl : ∀ {a : Addr} {l : List V}, H a = some (.lst l) → a ≠ x := fun {a l} h e => by rw [e, hx] at h; cases h
            have nxt : t ≠ x := fun e => by rw [e, hx] at htt; cases htt
            obtain ⟨o1, o2, o3⟩ := okS r (get_mem hr5)
            have enm : ((srs.take i).map (ordRow (prs.map (·.1)))).map (·.1) = (srs.take i).map (·.1) := by
              rw [List.map_map]
              rfl
            refine ⟨t, _, rfl, SqT.of (sg _ _ nxt htt), rfl, _, _, rfl, _, _, rfl, _, _, rfl, rfl, ?_⟩
            refine ⟨_, rfl, x, dx, _, rfl, hg.hx, rfl, _, rfl, _, rfl, _, rfl, x, dx, tp, tb, td, tg, b5, c5, _, _, _, r, rfl, hg, ⟨SqL.of (sg _ _ (nxl hb5) hb5), SqL.of (sg _ _ (nxl hc5) hc5), o1, o2, o3⟩, ?_, ?_, fun hd5 G5 s25 hg5 => ?_, fun e hd5 => ?_⟩
            · rw [List.length_map]
              omega
            · rw [List.length_map, List.length_take]
              omega
            · rw [enm] at hd5
              rw [hd5] at hk5
              refine ⟨_, _, _, _, rfl, fun a o ha e => s25 a o (ne_of_none e ntdH) (ne_of_none e ntgH) (sg a o ha e), ?_, ?_⟩
              · rw [take_more hr5, List.map_append]
                exact hg5
              · rw [take_more hr5, List.map_append]
                exact hk5
            · rw [enm] at hd5
              rw [hd5] at hk5
              intro G5 d s5 nd hd
              have dx5 : d ≠ x := fun q => by rw [q, hg.hx] at nd; cases nd
              exact q2 _ hk5 G5 d (sg.trans s5.b) (sg.free dx5 nd) hd
          · rintro σ G ⟨z5, z6, z7, z8, rfl, sg, hg, hk5⟩
            rw [List.length_map, lS, List.drop_length] at hk5
            rw [List.length_map, lS, List.take_length] at hg
            have hk5 : stepsDue (prs.map (·.1)) [] srs = none := hk5
            obtain ⟨kt, kg, htd, htg, tt, tgg⟩ := hg.tabs
            -- self.steps = tuple(list(self.taken))
            refine ⟨_, rfl, x, C, dx, _, _, rfl, hg.hx, T_Plan.cl, T_Plan.nT, rfl, td, kt, rfl, htd, fun l5 nl5 => ⟨l5, _, rfl, .inl ⟨SqL.of upd_same, fun ts nts => ?_⟩⟩⟩
            have nx5 : x ≠ l5 := ne_of_none hg.hx nl5
            have xg : (upd G l5 (.lst (kt.map fun kv => kV kv.1))) x = some (.ins C dx [("places", .ref tp), ("begin", .ref tb), ("taken", .ref td), ("given", .ref tg)]) := by rw [upd_ne nx5]; exact hg.hx
            have nx6 : x ≠ ts := ne_of_none xg nts
            refine ⟨_, rfl, x, C, dx, _, rfl, by rw [upd_ne nx6]; exact xg, T_Plan.cl, T_Plan.nS, by show 4 < 1000; decide, ?_⟩
            rw [show putF "steps" (.ref ts) [(("places" : Str), V.ref tp), ("begin", .ref tb), ("taken", .ref td), ("given", .ref tg)] = [(("places" : Str), V.ref tp), ("begin", .ref tb), ("taken", .ref td), ("given", .ref tg), ("steps", .ref ts)] from rfl]
            have kp : ∀ a o, a ≠ x → G a = some o → (upd (upd (upd G l5 (.lst (kt.map fun kv => kV kv.1))) ts (.tup (kt.map fun kv => kV kv.1))) x (.ins C dx [("places", .ref tp), ("begin", .ref tb), ("taken", .ref td), ("given", .ref tg), ("steps", .ref ts)])) a = some o := fun a o ha e => by
              have e2 := same_upd (o := .lst (kt.map fun kv => kV kv.1)) nl5 _ _ e
              rw [upd_ne ha, upd_ne (ne_of_none e2 nts)]
              exact e2
            have nk : ∀ {a : Addr} {o : HO}, G a = some o → (∀ C dx fs, o ≠ .ins C dx fs) → a ≠ x := fun {a o} h1 h2 e => by
              rw [e, hg.hx] at h1
              exact h2 _ _ _ (Option.some.inj h1).symm
            have keys : ∀ {kvs : List (Key × V)} {rows : List (Str × List Str)}, TabAt G kvs rows → (kvs.map fun kv => kV kv.1) = (rows.map (·.1)).map V.str := by
              intro kvs rows h
              induction h with
              | nil => rfl
              | cons h1 _ ih =>
                rw [List.map_cons, List.map_cons, List.map_cons, ih, h1.1]
                rfl
            refine q1 hk5 _ (fun a o ha e => kp a o ha (sg a o ha e)) ⟨dx, tp, tb, td, tg, ts, kt, kg, upd_same, ?_, ?_, ?_, ?_, ?_, ?_, ?_⟩
            · exact kp _ _ (nk hg.hp (fun _ _ _ => by intro h; cases h)) hg.hp
            · exact kp _ _ (nk hg.hb (fun _ _ _ => by intro h; cases h)) hg.hb
            · exact kp _ _ (nk htd (fun _ _ _ => by intro h; cases h)) htd
            · exact kp _ _ (nk htg (fun _ _ _ => by intro h; cases h)) htg
            · rw [upd_ne (Ne.symm nx6), upd_same, keys tt, tRows_names]
              rfl
            · exact tt.keep fun t l e => kp _ _ (nk e (fun _ _ _ => by intro h; cases h)) e
            · exact tgg.keep fun t l e => kp _ _ (nk e (fun _ _ _ => by intro h; cases h)) e
/-- Plan(places, steps), as a caller sees it -/
theorem mk_plan {cs : ECs} {C ap as' : Addr} {H : Hp} {Q : Addr → Hp → Prop} {E : XK} {prs : List (Str × Int)} {srs : List SRow} (hP : PRows H ap prs) (hS : SRows H as' srs) (okP : PRowsOk prs) (okS : SRowsOk srs)
    (q1 : planDue prs srs = none → ∀ (x : Addr) (H' : Hp), H x = none → Same H H' → PlanAt H' C x (planOf prs srs) → Q x H') (q2 : ∀ e, planDue prs srs = some e → RaisP cs E H e) :
    ∀ x dx, H x = none → H dx = none → dx ≠ x → spInit K cs C [.ref x, .ref ap, .ref as'] (upd (upd H dx (.own x)) x (.ins C dx [])) (fun v H2 => v = .non ∧ Q x H2) E := by
  intro x dx nx ndx ne
  have s1 : Same H (upd (upd H dx (.own x)) x (.ins C dx [])) := (same_upd ndx).trans (same_upd (by rw [upd_ne (Ne.symm ne)]; exact nx))
  refine ⟨x, dx, ap, as', prs, srs, rfl, upd_same, hP.keep s1, hS.keep s1, okP, okS, fun hk H' sm hp => ⟨rfl, q1 hk x H' nx (fun a o e => sm a o (ne_of_none e nx) (s1 a o e)) hp⟩, fun e hk H' d sm nd hd => ?_⟩
  exact q2 e hk H' d (fun a o e => sm a o (ne_of_none e nx) (s1 a o e)) (s1.free nd) hd
end

/-! ## k04 -/
section
variable {P : Program} {w : World} {K : PySem.W.Frag} {mg : Str → Option Value} {base : Heap}
theorem go_name {i : Nat} {v : V} {σ : L2.St} {H : Hp} {Q : L2.St → Hp → Prop} (h : Q (σ.set i (some v)) H) : gName i v σ H Q := h
theorem go_asg {te : TE} {g : TG} {u : TS} {D : Ends} {σ : L2.St} {H : Hp} (h : te σ H fun x H1 => g x σ H1 (u D)) : tSeq (tAsg te g) u D σ H := h
/-- the words of this law: all signs are those of words -/
def OkW (z : Str) : Prop := (∀ c ∈ z.cps.toList, okc c = true) ∧ z.length ≤ 13
theorem Wd.okw {z : Str} (h : Wd z) : OkW z := by
  obtain ⟨_, _, _, _, ho, hl⟩ := wd_inv h
  exact ⟨ho, Nat.le_succ_of_le hl⟩
theorem OkW.asc {z : Str} (h : OkW z) : Asc z := fun c hc => okc_lt (h.1 c hc)
abbrev s__law_name : Stmt := topS 28
theorem sc__law_name : FnScope ["_law_box_here", "_law_used", "_law_spare", "_law_odd"] ["_law_box_here", "_law_used", "_law_spare"] (defScope s__law_name) := ⟨rfl, rfl, rfl, by decide +kernel, rfl, by decide +kernel, by decide +kernel⟩
def spName (K : PySem.W.Frag) : Sp := fun vs H Q _ => ∃ (b l u : Addr) (us : List Str) (z : Str), vs = [.ref b, .ref u, .str z] ∧ Box H b l ∧ u ≠ b ∧ H u = some (.lst (us.map V.str)) ∧ us.length ≤ 1000 ∧ (∀ y ∈ us, OkW y) ∧ OkW z ∧ ∀ (y : Str) (H' : Hp), OkW y → Bx b l H H' → Q (.str y) H'
theorem ok_name {k : Nat} (B : Bl mg) (D__law_next : Def P w K mg base CX0 k "_law_next" ["_law_box_here", "_law_many"] spNext) (F : Src K mg "_law_name" s__law_name ["_law_box_here", "_law_used", "_law_spare"]) : Def P w K mg base CX0 (k + 1) "_law_name" ["_law_box_here", "_law_used", "_law_spare"] (spName K) := by
  refine F.ok sc__law_name (fun vs H Q E h => ?_) (fun f cdv A outer s H vs Q E hr h => ?_)
  · obtain ⟨b, l, u, us, z, rfl, _⟩ := h
    rfl
  · obtain ⟨b, l, u, us, z, rfl, hb, nub, hu, hul, hus, hz, q⟩ := h
    refine ⟨_, (pss_cons (ps_asg (pe_def D__law_next hr pass0 (pa_cons (pv 0) (pa_cons pe_int pa_nil))) (pg_name (i := 3) sc__law_name.nd rfl (Or.inl rfl)))
 (C8.pss_cut (ps_if (PW.pt (pw_and (pt_cmpR op_eq (pv 3) pe_int (nomark _)) (pw_and1 (pt_cmpR (kop_neD (K := K) hr.units) (pv 1) (pe_lst pa_nil) (nomark _))))) (pss_one (ps_ret (pe_ix (kix_list (K := K)) (pv 1) (pe_def D__law_next hr pass0 (pa_cons (pv 0) (pa_cons (pe_callB (kcall_len (K := K)) (by rfl) B.len PySem.boot_len (pa_cons (pv 1) pa_nil)) pa_nil))) (fun _ _ => rfl)))) pss_nil)
 (pss_cons (ps_if (pt_cmpR op_eq (pv 3) pe_int (nomark _)) (pss_one (ps_ret (pe_ix (kix_list (K := K)) (pe_lst (pa_cons pe_str (pa_cons pe_str (pa_cons pe_str pa_nil)))) (pe_def D__law_next hr pass0 (pa_cons (pv 0) (pa_cons pe_int pa_nil))) (fun _ _ => rfl)))) pss_nil)
 (pss_one (ps_ret (pv 2)))))), ?_⟩
    refine ⟨_, rfl, b, l, 24, rfl, by decide, by decide, hb, fun n H1 a0 a1 s1 => ?_⟩
    have hu1 := s1.at hu nub
    have shp : nb (dStrs us) = true ∧ SeqAt.shaped (dStrs us) = true := by
      have h := nb_strs fun y hy => (hus y hy).asc
      exact ⟨h, shaped_of h (by simp only [PyData.depth]; have := depth_strs us; omega)⟩
    refine ⟨fun σ' H2 => σ' = [some (.ref b), some (.ref u), some (.str z), some (.int n)] ∧ Bx b l H H2, ?_, ?_⟩
    · refine ⟨_, rfl, rfl, _, rfl, ?_⟩
      refine ite2 (fun h1 => ?_) (fun h1 => ?_)
      · refine ⟨_, rfl, Nat.zero_le _, fun p np => ?_⟩
        have s2 := s1.new (o := .lst []) np
        have hu2 := same_upd (o := .lst []) np _ _ hu1
        refine ⟨_, _, .lst (SqL.of hu2) (dpall_strs us), .lst (SqL.of upd_same) .nil, shp.2, rfl, _, rfl, ?_⟩
        refine ite2 (fun h2 => ?_) (fun h2 => ?_)
        · have h2 : us ≠ [] := fun e => by
            rw [e] at h2
            exact absurd h2 (by decide)
          have hpos : 0 < us.length := List.length_pos_iff.mpr h2
          refine ⟨_, rfl, _, rfl, _, rfl, u, _, rfl, .inl (SqL.of hu2), b, l, _, rfl, by rw [List.length_map]; omega, by rw [List.length_map]; exact Int.le_trans (show (us.length : Int) ≤ 1000 by omega) (by decide), s2.b1, fun m H3 b0 b1 s3 => ?_⟩
          rw [List.length_map] at b1
          obtain ⟨j, rfl⟩ : ∃ j : Nat, m = j := ⟨m.toNat, by omega⟩
          have hj : j < us.length := by omega
          have hg : (us.map V.str)[j]? = some (.str us[j]) := by rw [List.getElem?_map, List.getElem?_eq_getElem hj]; rfl
          exact ⟨u, _, _, _, rfl, rfl, SqL.of (s3.at hu2 nub), atI_nat hg, q _ _ (hus _ (List.getElem_mem hj)) (s2.trans s3)⟩
        · exact ⟨rfl, s2⟩
      · exact iteF ⟨rfl, s1⟩
    · rintro σ' H2 ⟨rfl, s2⟩
      refine ⟨_, rfl, rfl, _, rfl, ?_⟩
      refine ite2 (fun h1 => ?_) (fun h1 => ?_)
      · refine ⟨by show 3 ≤ sizeLine; decide, fun p np => ?_⟩
        have s3 := s2.new (o := .lst [.str "", .str "abcdefghijklm", .str "7up"]) np
        refine ⟨_, rfl, b, l, 3, rfl, by decide, by decide, s3.b1, fun m H3 b0 b1 s4 => ?_⟩
        have hp := s4.at (o := .lst [.str "", .str "abcdefghijklm", .str "7up"]) upd_same (s2.b1.neb np)
        have : m = 0 ∨ m = 1 ∨ m = 2 := by omega
        rcases this with rfl | rfl | rfl
        · exact ⟨p, _, _, _, rfl, rfl, SqL.of hp, rfl, q _ _ ⟨by decide, by decide⟩ (s3.trans s4)⟩
        · exact ⟨p, _, _, _, rfl, rfl, SqL.of hp, rfl, q _ _ ⟨by decide, by decide⟩ (s3.trans s4)⟩
        · exact ⟨p, _, _, _, rfl, rfl, SqL.of hp, rfl, q _ _ ⟨by decide, by decide⟩ (s3.trans s4)⟩
      · exact ⟨_, rfl, q _ _ hz s2⟩
abbrev s__law_listed : Stmt := topS 29
theorem sc__law_listed : FnScope ["_law_box_here", "_law_words_here", "_law_least", "_law_chosen", "_law_k", "_law_word_here"] ["_law_box_here", "_law_words_here", "_law_least"] (defScope s__law_listed) := ⟨rfl, rfl, rfl, by decide +kernel, rfl, by decide +kernel, by decide +kernel⟩
def spListed (K : PySem.W.Frag) : Sp := fun vs H Q _ => ∃ (b l u : Addr) (us : List Str) (least : Int), vs = [.ref b, .ref u, .int least] ∧ 0 ≤ least ∧ least ≤ 1 ∧ Box H b l ∧ H u = some (.lst (us.map V.str)) ∧ us.length ≤ 1000 ∧ (∀ y ∈ us, OkW y) ∧
  ∀ (p : Addr) (ws : List Str) (H' : Hp), ws.length ≤ 10 → (∀ y ∈ ws, OkW y) → H p = none → Bx b l H H' → H' p = some (.lst (ws.map V.str)) → Q (.ref p) H'
theorem ok_listed {k : Nat} (B : Bl mg) (D__law_next : Def P w K mg base CX0 k "_law_next" ["_law_box_here", "_law_many"] spNext) (D__law_word : Def P w K mg base CX0 k "_law_word" ["_law_box_here"] spWord) (F : Src K mg "_law_listed" s__law_listed ["_law_box_here", "_law_words_here", "_law_least"]) : Def P w K mg base CX0 (k + 1) "_law_listed" ["_law_box_here", "_law_words_here", "_law_least"] (spListed K) := by
  refine F.ok sc__law_listed (fun vs H Q E h => ?_) (fun f cdv A outer s H vs Q E hr h => ?_)
  · obtain ⟨b, l, u, us, least, rfl, _⟩ := h
    rfl
  · obtain ⟨b, l, u, us, least, rfl, hl0, hl1, hb, hu, hul, hus, q⟩ := h
    have nub := lst_strs_ne hb hu
    have shp : nb (dStrs us) = true ∧ SeqAt.shaped (dStrs us) = true := by
      have h := nb_strs fun y hy => (hus y hy).asc
      exact ⟨h, shaped_of h (by simp only [PyData.depth]; have := depth_strs us; omega)⟩
    refine ⟨_, (pss_cons (ps_asg (pe_lst pa_nil) (pg_name (i := 3) sc__law_listed.nd rfl (Or.inl rfl)))
 (pss_cons (ps_for PassesOwn.never rfl (pi_range1 (by rfl) B.range (pa_cons (pe_op op_add (pv 2) (pe_def D__law_next hr pass0 (pa_cons (pv 0) (pa_cons pe_int pa_nil)))) pa_nil)) (pg_name (i := 4) sc__law_listed.nd rfl (Or.inl rfl)) (pss_cons (ps_asg (pe_def D__law_word hr pass0 (pa_cons (pv 0) pa_nil)) (pg_name (i := 5) sc__law_listed.nd rfl (Or.inl rfl)))
 (C8.pss_cut (ps_if (PW.pt (pw_and (pt_cmpR (kop_neD (K := K) hr.units) (pv 1) (pe_lst pa_nil) (nomark _)) (pw_and1 (pt_cmpR op_ne (pe_def D__law_next hr pass0 (pa_cons (pv 0) (pa_cons pe_int pa_nil))) pe_int (nomark _))))) (pss_cons (ps_asg (pe_ix (kix_list (K := K)) (pv 1) (pe_def D__law_next hr pass0 (pa_cons (pv 0) (pa_cons (pe_callB (kcall_len (K := K)) (by rfl) B.len PySem.boot_len (pa_cons (pv 1) pa_nil)) pa_nil))) (fun _ _ => rfl)) (pg_name (i := 5) sc__law_listed.nd rfl (Or.inl rfl)))
 (pss_one (ps_if (PW.pt (pw_and (pt_cmpR (kop_in (K := K)) (pv 5) (pv 3) rfl) (pw_and1 (pt_cmpR op_ne (pe_def D__law_next hr pass0 (pa_cons (pv 0) (pa_cons pe_int pa_nil))) pe_int (nomark _))))) (pss_one (ps_asg pe_str (pg_name (i := 5) sc__law_listed.nd rfl (Or.inl rfl)))) pss_nil))) pss_nil)
 (pss_one (ps_if (pt_cmpR op_ne (pv 5) pe_str (nomark _)) (pss_one (ps_expr (pe_bm PySem.F.plainAttrs_list PySem.F.slot_list_append PySem.F.type_list_append mt_append (pv 3) (pa_cons (pv 5) pa_nil)))) pss_nil)))))
 (pss_one (ps_ret (pv 3))))), ?_⟩
    refine ⟨Nat.zero_le _, fun D nD => ?_⟩
    have s0 := hb.bx.new (o := .lst []) nD
    have nDb := hb.neb nD
    refine ⟨_, rfl, _, rfl, b, l, 3, rfl, by decide, by decide, s0.b1, fun n H1 a0 a1 s1 => ⟨_, _, rfl, rfl, _, rfl, by omega, by omega, ?_⟩⟩
    refine for_range (lo := 0) (n := (least + n).toNat) (fun i σ H' => ∃ (ws : List Str) (y1 y2 : Option V), σ = [some (.ref b), some (.ref u), some (.int least), some (.ref D), y1, y2] ∧ ws.length ≤ i ∧ (∀ y ∈ ws, OkW y) ∧ Bx b l H H' ∧ H' D = some (.lst (ws.map V.str)))
      ⟨[], none, none, rfl, Nat.le_refl _, (fun y hy => by cases hy), s0.trans s1, s1.at upd_same nDb⟩ ?_ ?_
    · rintro i σ H' hi ⟨ws, y1, y2, rfl, hwl, hw, sm, hD⟩
      refine ⟨_, rfl, b, l, rfl, sm.b1, fun z H2 hz s2 => ?_⟩
      have sm2 := sm.trans s2
      have hD2 := s2.at hD nDb
      -- behind the exchange: some word, or the empty text
      refine ⟨fun σ' H3 => ∃ z' : Str, σ' = [some (.ref b), some (.ref u), some (.int least), some (.ref D), some (.int (0 + (i : Nat))), some (.str z')] ∧ OkW z' ∧ Bx b l H H3 ∧ H3 D = some (.lst (ws.map V.str)), ?_, ?_⟩
      · refine ⟨_, rfl, Nat.zero_le _, fun p np => ?_⟩
        have sm3 := sm2.new (o := .lst []) np
        have hD3 := same_upd (o := .lst []) np _ _ hD2
        have hu3 := sm3.at hu nub
        refine ⟨_, _, .lst (SqL.of hu3) (dpall_strs us), .lst (SqL.of upd_same) .nil, shp.2, rfl, _, rfl, ?_⟩
        refine ite2 (fun h2 => ?_) (fun h2 => ?_)
        · have h2 : us ≠ [] := fun e => by
            rw [e] at h2
            exact absurd h2 (by decide)
          have hpos : 0 < us.length := List.length_pos_iff.mpr h2
          refine ⟨_, rfl, b, l, 24, rfl, by decide, by decide, sm3.b1, fun m H4 b0 b1 s4 => ⟨rfl, _, rfl, ?_⟩⟩
          have hD4 := s4.at hD3 nDb
          have hu4 := s4.at hu3 nub
          have sm4 := sm3.trans s4
          refine ite2 (fun h3 => ?_) (fun h3 => ?_)
          · refine ⟨_, rfl, _, rfl, _, rfl, u, _, rfl, .inl (SqL.of hu4), b, l, _, rfl, by rw [List.length_map]; omega, by rw [List.length_map]; exact Int.le_trans (show (us.length : Int) ≤ 1000 by omega) (by decide), sm4.b1, fun m5 H5 c0 c1 s5 => ?_⟩
            rw [List.length_map] at c1
            obtain ⟨j, rfl⟩ : ∃ j : Nat, m5 = j := ⟨m5.toNat, by omega⟩
            have hj : j < us.length := by omega
            have hg : (us.map V.str)[j]? = some (.str us[j]) := by rw [List.getElem?_map, List.getElem?_eq_getElem hj]; rfl
            refine ⟨u, _, _, _, rfl, rfl, SqL.of (s5.at hu4 nub), atI_nat hg, ?_⟩
            have hD5 := s5.at hD4 nDb
            have sm5 := sm4.trans s5
            have hok := hus _ (List.getElem_mem hj)
            refine ⟨_, rfl, _, rfl, D, _, rfl, .inl (SqL.of hD5), rfl, flat_strs _, _, rfl, ?_⟩
            refine ite2 (fun h4 => ?_) (fun h4 => ?_)
            · refine ⟨_, rfl, b, l, 6, rfl, by decide, by decide, sm5.b1, fun m6 H6 d0 d1 s6 => ⟨rfl, _, rfl, ?_⟩⟩
              refine ite2 (fun h5 => ?_) (fun h5 => ?_)
              · exact ⟨"", rfl, ⟨by decide, by decide⟩, sm5.trans s6, s6.at hD5 nDb⟩
              · exact ⟨_, rfl, hok, sm5.trans s6, s6.at hD5 nDb⟩
            · exact iteF ⟨_, rfl, hok, sm5, hD5⟩
          · exact ⟨_, rfl, (Wd.okw hz), sm4, hD4⟩
        · exact iteF ⟨_, rfl, (Wd.okw hz), sm3, hD3⟩
      · rintro σ' H3 ⟨z', rfl, hz', sm3, hD3⟩
        refine ⟨_, rfl, rfl, _, rfl, ?_⟩
        refine ite2 (fun h1 => ?_) (fun h1 => ?_)
        · refine ⟨_, rfl, .inl ⟨rfl, _, SqL.of hD3⟩, _, rfl, D, _, _, rfl, rfl, hD3, ?_, ?_⟩
          · rw [List.length_map]
            exact small1000 (by omega)
          · refine ⟨ws ++ [z'], _, _, rfl, by rw [List.length_append]; show _ + 1 ≤ _; omega, fun y hy => ?_, sm3.mut nD, ?_⟩
            · rcases List.mem_append.mp hy with h | h
              · exact hw y h
              · rw [List.mem_singleton.mp h]
                exact hz'
            · rw [upd_same, List.map_append]
              rfl
        · exact ⟨ws, _, _, rfl, by omega, hw, sm3, hD3⟩
    · rintro σ H' ⟨ws, y1, y2, rfl, hwl, hw, sm, hD⟩
      exact ⟨_, rfl, q D ws H' (by omega) hw nD sm hD⟩
abbrev s__law_rows : Stmt := topS 30
theorem sc__law_rows : FnScope ["_law_box_here", "_law_many", "_law_spare", "_law_places", "_law_k", "_law_number", "_law_odd", "_law_words_here", "_law_steps", "_law_word_here", "_law_taken", "_law_row"] ["_law_box_here"] (defScope s__law_rows) := ⟨rfl, rfl, rfl, by decide +kernel, rfl, by decide +kernel, by decide +kernel⟩
def spRows : Sp := fun vs H Q _ => ∃ (b l : Addr), vs = [.ref b] ∧ Box H b l ∧ ∀ (p ap as' : Addr) (prs : List (Str × Int)) (srs : List SRow) (H' : Hp), Bx b l H H' → H' p = some (.tup [.ref ap, .ref as']) → PRows H' ap prs → SRows H' as' srs →
  (∀ r ∈ prs, OkW r.1) → (∀ r ∈ srs, OkW r.1 ∧ (∀ y ∈ r.2.1, OkW y) ∧ (∀ y ∈ r.2.2, OkW y) ∧ r.2.1.length ≤ 10 ∧ r.2.2.length ≤ 10) → prs.length ≤ 20 → srs.length ≤ 20 → Q (.ref p) H'
theorem ok_rows {k : Nat} (B : Bl mg) (D__law_next : Def P w K mg base CX0 k "_law_next" ["_law_box_here", "_law_many"] spNext) (D__law_words : Def P w K mg base CX0 k "_law_words" ["_law_box_here", "_law_many"] spWords)
    (D__law_name : Def P w K mg base CX0 k "_law_name" ["_law_box_here", "_law_used", "_law_spare"] (spName K)) (D__law_listed : Def P w K mg base CX0 k "_law_listed" ["_law_box_here", "_law_words_here", "_law_least"] (spListed K))
    (F : Src K mg "_law_rows" s__law_rows ["_law_box_here"]) : Def P w K mg base CX0 (k + 1) "_law_rows" ["_law_box_here"] spRows := by
  refine F.ok sc__law_rows (fun vs H Q E h => ?_) (fun f cdv A outer s H vs Q E hr h => ?_)
  · obtain ⟨b, l, rfl, _⟩ := h
    rfl
  · obtain ⟨b, l, rfl, hb, q⟩ := h
    refine ⟨_, (pss_cons (ps_asg (pe_def D__law_next hr pass0 (pa_cons (pv 0) (pa_cons pe_int pa_nil))) (pg_name (i := 1) sc__law_rows.nd rfl (Or.inl rfl)))
 (C8.pss_cut (ps_if (pt_cmpR op_eq (pe_def D__law_next hr pass0 (pa_cons (pv 0) (pa_cons pe_int pa_nil))) pe_int (nomark _)) (pss_one (ps_asg (pe_op op_add pe_int (pe_def D__law_next hr pass0 (pa_cons (pv 0) (pa_cons pe_int pa_nil)))) (pg_name (i := 1) sc__law_rows.nd rfl (Or.inl rfl)))) pss_nil)
 (pss_cons (ps_asg (pe_def D__law_words hr pass0 (pa_cons (pv 0) (pa_cons pe_int pa_nil))) (pg_name (i := 2) sc__law_rows.nd rfl (Or.inl rfl)))
 (pss_cons (ps_asg (pe_lst pa_nil) (pg_name (i := 3) sc__law_rows.nd rfl (Or.inl rfl)))
 (pss_cons (ps_for PassesOwn.never rfl (pi_range1 (by rfl) B.range (pa_cons (pv 1) pa_nil)) (pg_name (i := 4) sc__law_rows.nd rfl (Or.inl rfl)) (pss_cons (ps_asg (pe_def D__law_next hr pass0 (pa_cons (pv 0) (pa_cons pe_int pa_nil))) (pg_name (i := 5) sc__law_rows.nd rfl (Or.inl rfl)))
 (pss_cons (ps_asg (pe_def D__law_next hr pass0 (pa_cons (pv 0) (pa_cons pe_int pa_nil))) (pg_name (i := 6) sc__law_rows.nd rfl (Or.inl rfl)))
 (C8.pss_cut (ps_if (pt_cmpR op_eq (pv 6) pe_int (nomark _)) (pss_one (ps_asg (pe_ix (kix_list (K := K)) (pe_lst (pa_cons (pe_un un_neg pe_int) (pa_cons pe_int pa_nil))) (pe_def D__law_next hr pass0 (pa_cons (pv 0) (pa_cons pe_int pa_nil))) (fun _ _ => rfl)) (pg_name (i := 5) sc__law_rows.nd rfl (Or.inl rfl)))) pss_nil)
 (pss_one (ps_expr (pe_bm PySem.F.plainAttrs_list PySem.F.slot_list_append PySem.F.type_list_append mt_append (pv 3) (pa_cons (pe_tup (pa_cons (pe_def D__law_name hr pass0 (pa_cons (pv 0) (pa_cons (pe_lc (own := [("_law_row", 11)]) (g := gName 11) (by rfl) sc__law_rows.nd (kpi_list (K := K) (pv 3)) (blkOk_by (N := ["_law_box_here", "_law_many", "_law_spare", "_law_places", "_law_k", "_law_number", "_law_odd", "_law_words_here", "_law_steps", "_law_word_here", "_law_taken", "_law_row"]) (sc := defScope s__law_rows) (by decide +kernel)) (fun _ _ _ _ _ => (pg_name (i := 11) sc__law_rows.nd rfl (Or.inl rfl))) (fun _ _ _ _ _ => pts_nil) (fun _ _ _ _ _ => (pe_ix (kix_tup (K := K)) (pv 11) pe_int (fun _ _ => rfl)))) (pa_cons (pe_ix (kix_list (K := K)) (pv 2) (pv 4) (fun _ _ => rfl)) pa_nil)))) (pa_cons (pv 5) pa_nil))) pa_nil))))))))
 (pss_cons (ps_asg (pe_def D__law_next hr pass0 (pa_cons (pv 0) (pa_cons pe_int pa_nil))) (pg_name (i := 1) sc__law_rows.nd rfl (Or.inl rfl)))
 (C8.pss_cut (ps_if (pt_cmpR op_eq (pe_def D__law_next hr pass0 (pa_cons (pv 0) (pa_cons pe_int pa_nil))) pe_int (nomark _)) (pss_one (ps_asg (pe_op op_add pe_int (pe_def D__law_next hr pass0 (pa_cons (pv 0) (pa_cons pe_int pa_nil)))) (pg_name (i := 1) sc__law_rows.nd rfl (Or.inl rfl)))) pss_nil)
 (pss_cons (ps_asg (pe_def D__law_words hr pass0 (pa_cons (pv 0) (pa_cons pe_int pa_nil))) (pg_name (i := 2) sc__law_rows.nd rfl (Or.inl rfl)))
 (pss_cons (ps_setLc (i := 7) (own := [("_law_row", 11)]) (g := gName 11) (by rfl) sc__law_rows.nd rfl rfl (sw_true rfl rfl rfl (by decide +kernel)) (kpi_list (K := K) (pv 3)) (blkOk_by (N := ["_law_box_here", "_law_many", "_law_spare", "_law_places", "_law_k", "_law_number", "_law_odd", "_law_words_here", "_law_steps", "_law_word_here", "_law_taken", "_law_row"]) (sc := defScope s__law_rows) (by decide +kernel)) (fun _ _ _ _ _ => (pg_name (i := 11) sc__law_rows.nd rfl (Or.inl rfl))) (fun _ _ _ _ _ => pts_nil) (fun _ _ _ _ _ => (pe_ix (kix_tup (K := K)) (pv 11) pe_int (fun _ _ => rfl))))
 (pss_cons (ps_asg (pe_lst pa_nil) (pg_name (i := 8) sc__law_rows.nd rfl (Or.inl rfl)))
 (pss_cons (ps_for PassesOwn.never rfl (pi_range1 (by rfl) B.range (pa_cons (pv 1) pa_nil)) (pg_name (i := 4) sc__law_rows.nd rfl (Or.inl rfl)) (pss_cons (ps_asg (pe_def D__law_name hr pass0 (pa_cons (pv 0) (pa_cons (pe_lc (own := [("_law_row", 11)]) (g := gName 11) (by rfl) sc__law_rows.nd (kpi_list (K := K) (pv 8)) (blkOk_by (N := ["_law_box_here", "_law_many", "_law_spare", "_law_places", "_law_k", "_law_number", "_law_odd", "_law_words_here", "_law_steps", "_law_word_here", "_law_taken", "_law_row"]) (sc := defScope s__law_rows) (by decide +kernel)) (fun _ _ _ _ _ => (pg_name (i := 11) sc__law_rows.nd rfl (Or.inl rfl))) (fun _ _ _ _ _ => pts_nil) (fun _ _ _ _ _ => (pe_ix (kix_tup (K := K)) (pv 11) pe_int (fun _ _ => rfl)))) (pa_cons (pe_ix (kix_list (K := K)) (pv 2) (pv 4) (fun _ _ => rfl)) pa_nil)))) (pg_name (i := 9) sc__law_rows.nd rfl (Or.inl rfl)))
 (pss_cons (ps_asg (pe_def D__law_listed hr pass0 (pa_cons (pv 0) (pa_cons (pv 7) (pa_cons (pe_callTy call_int1 (by rfl) B.int' (by decide +kernel) (pa_cons (pe_cmpR op_ne (pe_def D__law_next hr pass0 (pa_cons (pv 0) (pa_cons pe_int pa_nil))) pe_int (nomark _)) pa_nil)) pa_nil)))) (pg_name (i := 10) sc__law_rows.nd rfl (Or.inl rfl)))
 (pss_one (ps_expr (pe_bm PySem.F.plainAttrs_list PySem.F.slot_list_append PySem.F.type_list_append mt_append (pv 8) (pa_cons (pe_tup (pa_cons (pv 9) (pa_cons (pv 10) (pa_cons (pe_def D__law_listed hr pass0 (pa_cons (pv 0) (pa_cons (pv 7) (pa_cons pe_int pa_nil)))) pa_nil)))) pa_nil)))))))
 (pss_one (ps_ret (pe_tup (pa_cons (pv 3) (pa_cons (pv 8) pa_nil)))))))))))))))), ?_⟩
    refine ⟨_, rfl, b, l, 6, rfl, by decide, by decide, hb, fun n H1 a0 a1 s1 => ?_⟩
    -- how many places
    refine ⟨fun σ' H2 => ∃ m : Nat, σ' = [some (.ref b), some (.int m), none, none, none, none, none, none, none, none, none, none] ∧ m ≤ 14 ∧ Bx b l H H2, ?_, ?_⟩
    · refine ⟨_, rfl, b, l, 6, rfl, by decide, by decide, s1.b1, fun n2 H2 b0 b1 s2 => ⟨rfl, _, rfl, ?_⟩⟩
      refine ite2 (fun h1 => ?_) (fun h1 => ?_)
      · refine ⟨_, rfl, b, l, 4, rfl, by decide, by decide, s2.b1, fun n3 H3 c0 c1 s3 => ⟨_, _, rfl, rfl, ?_⟩⟩
        obtain ⟨j, rfl⟩ : ∃ j : Nat, n3 = j := ⟨n3.toNat, by omega⟩
        exact ⟨11 + j, rfl, by omega, (s1.trans s2).trans s3⟩
      · obtain ⟨j, rfl⟩ : ∃ j : Nat, n = j := ⟨n.toNat, by omega⟩
        exact ⟨j, rfl, by omega, s1.trans s2⟩
    · rintro σ' H2 ⟨m, rfl, hm, s2⟩
      refine ⟨_, rfl, b, l, 14, rfl, by decide, s2.b1, fun sp sps H3 l3 _ w3 np3 s3 hsp => ?_⟩
      refine ⟨Nat.zero_le _, fun D nD => ?_⟩
      have s4 := (s2.trans s3).new (o := .lst []) nD
      have nDH : H D = none := (s2.trans s3).free nD
      have nDb := hb.neb nDH
      have nsb : sp ≠ b := s2.b1.neb np3
      refine ⟨_, rfl, m, rfl, by omega, by omega, for_range (lo := 0) (n := m) (fun i σ H' => ∃ (prs : List (Str × Int)) (y4 y5 y6 : Option V), σ = [some (.ref b), some (.int m), some (.ref sp), some (.ref D), y4, y5, y6, none, none, none, none, none] ∧ prs.length = i ∧ (∀ r ∈ prs, OkW r.1) ∧ Bx b l H H' ∧ PRows H' D prs ∧ H' sp = some (.lst (sps.map V.str)))
        ⟨[], none, none, none, rfl, rfl, (fun r hr => by cases hr), s4, ⟨[], upd_same, .nil⟩, same_upd nD _ _ hsp⟩ ?_ ?_⟩
      · rintro i σ H' hi ⟨prs, y4, y5, y6, rfl, hl, hw, sm, hP, hS⟩
        refine ⟨_, rfl, b, l, 100, rfl, by decide, by decide, sm.b1, fun n5 H5 a0 a1 s5 => ?_⟩
        refine ⟨_, rfl, b, l, 30, rfl, by decide, by decide, s5.b1, fun n6 H6 b0 b1 s6 => ?_⟩
        have s56 := s5.trans s6
        have sm6 := sm.trans s56
        refine ⟨fun σ' H7 => ∃ nu : Int, σ' = [some (.ref b), some (.int m), some (.ref sp), some (.ref D), some (.int (0 + (i : Nat))), some (.int nu), some (.int n6), none, none, none, none, none] ∧ Bx b l H' H7, ?_, ?_⟩
        · refine ⟨_, rfl, rfl, _, rfl, ?_⟩
          refine ite2 (fun h1 => ?_) (fun h1 => ?_)
          · refine ⟨_, rfl, by show 2 ≤ sizeLine; decide, fun p np => ?_⟩
            have s7 := s56.new (o := .lst [.int (-1), .int 100]) np
            refine ⟨_, rfl, b, l, 2, rfl, by decide, by decide, s7.b1, fun m7 H7 c0 c1 s8 => ?_⟩
            have hp := s8.at (o := .lst [.int (-1), .int 100]) upd_same (s56.b1.neb np)
            have : m7 = 0 ∨ m7 = 1 := by omega
            rcases this with rfl | rfl
            · exact ⟨p, _, _, _, rfl, rfl, SqL.of hp, rfl, _, rfl, s7.trans s8⟩
            · exact ⟨p, _, _, _, rfl, rfl, SqL.of hp, rfl, _, rfl, s7.trans s8⟩
          · exact ⟨_, rfl, s56⟩
        · rintro σ' H7 ⟨nu, rfl, s7⟩
          obtain ⟨ts, hts, pts⟩ := hP.bx s7
          have hS7 := s7.at hS nsb
          refine ⟨_, rfl, .inl ⟨rfl, _, SqL.of hts⟩, _, rfl, ?_⟩
          refine lc_heads hts (PRows.heads pts) (by rw [List.length_map]; omega) (by rfl) (by show 11 < 12; decide) fun G H8 nG s8 hG => ?_
          have hi2 : i < sps.length := by omega
          have hg : (sps.map V.str)[i]? = some (.str sps[i]) := by rw [List.getElem?_map, List.getElem?_eq_getElem hi2]; rfl
          refine ⟨_, rfl, _, rfl, sp, _, _, _, rfl, rfl, SqL.of (s8 _ _ hS7), by rw [Int.zero_add]; exact atI_nat hg, ?_⟩
          have s78 := s7.same s8
          refine ⟨b, l, G, prs.map (·.1), _, rfl, s78.b1, lst_strs_ne s78.b1 hG, hG, by rw [List.length_map]; omega, ?_, Wd.okw (w3 _ (List.getElem_mem hi2)), fun y H9 hy s9 => ?_⟩
          · intro y hy
            obtain ⟨r, hr5, rfl⟩ := List.mem_map.mp hy
            exact hw r hr5
          · refine ⟨_, rfl, by show 2 ≤ sizeLine; decide, fun t nt => ?_⟩
            have s79 := (s78.trans s9).new (o := .tup [.str y, .int nu]) nt
            obtain ⟨ts2, hts2, pts2⟩ := hP.bx s79
            refine ⟨D, _, _, rfl, rfl, hts2, ?_, ?_⟩
            · rw [List.length_map, Paired.len pts2]
              exact small1000 (by omega)
            · refine ⟨prs ++ [(y, nu)], _, _, _, rfl, by rw [List.length_append, hl]; rfl, fun r hr5 => ?_, (sm.trans s79).mut nDH, PRows.snoc hts2 pts2 upd_same, ?_⟩
              · rcases List.mem_append.mp hr5 with h | h
                · exact hw r h
                · rw [List.mem_singleton.mp h]
                  exact hy
              · rw [upd_ne (ne_of_none hsp nD)]
                exact s79.at hS nsb
      · rintro σ H' ⟨prs, y4, y5, y6, rfl, hl, hw, sm, hP, hS⟩
        refine ⟨_, rfl, b, l, 6, rfl, by decide, by decide, sm.b1, fun n5 H5 a0 a1 s5 => ?_⟩
        -- how many steps
        refine ⟨fun σ' H6 => ∃ m2 : Nat, σ' = [some (.ref b), some (.int m2), some (.ref sp), some (.ref D), y4, y5, y6, none, none, none, none, none] ∧ m2 ≤ 18 ∧ Bx b l H' H6, ?_, ?_⟩
        · refine ⟨_, rfl, b, l, 6, rfl, by decide, by decide, s5.b1, fun n6 H6 b0 b1 s6 => ⟨rfl, _, rfl, ?_⟩⟩
          refine ite2 (fun h1 => ?_) (fun h1 => ?_)
          · refine ⟨_, rfl, b, l, 4, rfl, by decide, by decide, s6.b1, fun n7 H7 c0 c1 s7 => ⟨_, _, rfl, rfl, ?_⟩⟩
            obtain ⟨j, rfl⟩ : ∃ j : Nat, n7 = j := ⟨n7.toNat, by omega⟩
            exact ⟨15 + j, rfl, by omega, (s5.trans s6).trans s7⟩
          · obtain ⟨j, rfl⟩ : ∃ j : Nat, n5 = j := ⟨n5.toNat, by omega⟩
            exact ⟨j, rfl, by omega, s5.trans s6⟩
        · rintro σ' H6 ⟨m2, rfl, hm2, s6⟩
          refine ⟨_, rfl, b, l, 18, rfl, by decide, s6.b1, fun sp2 sps2 H7 l7 _ w7 np7 s7 hsp2 => ?_⟩
          have s67 := s6.trans s7
          obtain ⟨ts, hts, pts⟩ := hP.bx s67
          -- the words of the places
          refine go_name ?_
          dsimp only
          refine go_asg ?_
          refine lc_heads hts (PRows.heads pts) (by rw [List.length_map]; omega) (by rfl) (by show 11 < 12; decide) fun G H8 nG s8 hG => ?_
          have s68 := s67.same s8
          refine ⟨Nat.zero_le _, fun D2 nD2 => ?_⟩
          have s69 := s68.new (o := .lst []) nD2
          have nD2b := s68.b1.neb nD2
          have sH9 := sm.trans s69
          have nD2H : H D2 = none := (sm.trans s68).free nD2
          have nsb2 : sp2 ≠ b := s6.b1.neb np7
          have hG9 := same_upd (o := .lst []) nD2 _ _ hG
          have nGb := lst_strs_ne s68.b1 hG
          have hsp9 : (upd H8 D2 (.lst [])) sp2 = some (.lst (sps2.map V.str)) := same_upd nD2 _ _ (s8 _ _ hsp2)
          have okG : ∀ y ∈ prs.map (·.1), OkW y := fun y hy => by
            obtain ⟨r, hr5, rfl⟩ := List.mem_map.mp hy
            exact hw r hr5
          have hP9 := hP.bx s69
          have nDD2 : D ≠ D2 := by
            obtain ⟨ts9, e9, _⟩ := hP.bx s68
            exact ne_of_none e9 nD2
          have nGD2 : G ≠ D2 := ne_of_none hG nD2
          have nsD2 : sp2 ≠ D2 := ne_of_none (s8 _ _ hsp2) nD2
          refine ⟨_, rfl, m2, rfl, by omega, by omega, for_range (lo := 0) (n := m2) (fun i σ G' => ∃ (srs : List SRow) (z4 z9 z10 : Option V), σ = [some (.ref b), some (.int m2), some (.ref sp2), some (.ref D), z4, y5, y6, some (.ref G), some (.ref D2), z9, z10, none] ∧ srs.length = i ∧ (∀ r ∈ srs, OkW r.1 ∧ (∀ y ∈ r.2.1, OkW y) ∧ (∀ y ∈ r.2.2, OkW y) ∧ r.2.1.length ≤ 10 ∧ r.2.2.length ≤ 10) ∧ Bx b l H G' ∧ PRows G' D prs ∧ SRows G' D2 srs ∧ G' sp2 = some (.lst (sps2.map V.str)) ∧ G' G = some (.lst ((prs.map (·.1)).map V.str)))
            ⟨[], _, none, none, rfl, rfl, (fun r hr => by cases hr), sH9, hP9, ⟨[], upd_same, .nil⟩, hsp9, hG9⟩ ?_ ?_⟩
          · rintro i σ G' hi ⟨srs, z4, z9, z10, rfl, hl2, hw2, sg, gP, gS, gsp, gG⟩
            obtain ⟨us, hus, pus⟩ := gS
            -- the step's word
            refine ⟨_, rfl, ?_⟩
            refine lc_heads hus (SRows.heads pus) (by rw [List.length_map]; omega) (by rfl) (by show 11 < 12; decide) fun G2 H10 nG2 s10 hG2 => ?_
            have hi2 : i < sps2.length := by omega
            have hg : (sps2.map V.str)[i]? = some (.str sps2[i]) := by rw [List.getElem?_map, List.getElem?_eq_getElem hi2]; rfl
            refine ⟨_, rfl, _, rfl, sp2, _, _, _, rfl, rfl, SqL.of (s10 _ _ gsp), by rw [Int.zero_add]; exact atI_nat hg, ?_⟩
            have t10 := sg.b1.bx.same s10
            refine ⟨b, l, G2, srs.map (·.1), _, rfl, t10.b1, lst_strs_ne t10.b1 hG2, hG2, by rw [List.length_map]; omega, ?_, Wd.okw (w7 _ (List.getElem_mem hi2)), fun y H11 hy s11 => ?_⟩
            · intro y hy
              obtain ⟨r, hr5, rfl⟩ := List.mem_map.mp hy
              exact (hw2 r hr5).1
            · have t11 := t10.trans s11
              have gG11 := t11.at gG nGb
              -- what it takes
              refine ⟨_, rfl, _, rfl, _, rfl, b, l, 12, rfl, by decide, by decide, t11.b1, fun n12 H12 a0 a1 s12 => ⟨rfl, .inr ⟨_, rfl, ?_⟩⟩⟩
              have t12 := t11.trans s12
              have gG12 := s12.at gG11 nGb
              refine ⟨b, l, G, _, _, rfl, by split <;> decide, by split <;> decide, t12.b1, gG12, by rw [List.length_map]; omega, okG, fun q1 ws1 H13 hl13 ho13 nq1 s13 hq1 => ?_⟩
              have t13 := t12.trans s13
              have gG13 := s13.at gG12 nGb
              have nq1b := t12.b1.neb nq1
              -- and what it gives
              have gS13 : SRows H13 D2 srs := SRows.bx ⟨us, hus, pus⟩ t13
              refine ⟨_, rfl, .inl ⟨rfl, _, SqL.of gS13.choose_spec.1⟩, _, rfl, _, rfl, _, rfl, _, rfl, b, l, G, _, _, rfl, by decide, by decide, t13.b1, gG13, by rw [List.length_map]; omega, okG, fun q2 ws2 H14 hl14 ho14 nq2 s14 hq2 => ?_⟩
              have t14 := t13.trans s14
              have hq1' := s14.at hq1 nq1b
              refine ⟨by show 3 ≤ sizeLine; decide, fun t nt => ?_⟩
              have t15 := t14.new (o := .tup [.str y, .ref q1, .ref q2]) nt
              have hq1'' := same_upd (o := .tup [.str y, .ref q1, .ref q2]) nt _ _ hq1'
              have hq2'' := same_upd (o := .tup [.str y, .ref q1, .ref q2]) nt _ _ hq2
              obtain ⟨us3, hus3, pus3⟩ := SRows.bx ⟨us, hus, pus⟩ t15
              have d12 : ∃ o, H12 D2 = some o := by
                obtain ⟨us4, hus4, _⟩ := SRows.bx ⟨us, hus, pus⟩ t12
                exact ⟨_, hus4⟩
              have d13 : ∃ o, H13 D2 = some o := ⟨_, gS13.choose_spec.1⟩
              have nq1D : q1 ≠ D2 := fun e => by
                obtain ⟨o, ho⟩ := d12
                rw [e, ho] at nq1
                cases nq1
              have nq2D : q2 ≠ D2 := fun e => by
                obtain ⟨o, ho⟩ := d13
                rw [e, ho] at nq2
                cases nq2
              refine ⟨D2, _, _, rfl, rfl, hus3, ?_, ?_⟩
              · rw [List.length_map, Paired.len pus3]
                exact small1000 (by omega)
              · refine ⟨srs ++ [(y, ws1, ws2)], _, _, _, rfl, by rw [List.length_append, hl2]; rfl, fun r hr5 => ?_, (sg.trans t15).mut nD2H, ?_, SRows.snoc hus3 pus3 ⟨q1, q2, upd_same, hq1'', hq2'', nq1D, nq2D⟩, ?_, ?_⟩
                · rcases List.mem_append.mp hr5 with h | h
                  · exact hw2 r h
                  · rw [List.mem_singleton.mp h]
                    exact ⟨hy, ho13, ho14, hl13, hl14⟩
                · obtain ⟨tp5, e1, e2⟩ := gP.bx t15
                  refine ⟨tp5, by rw [upd_ne nDD2]; exact e1, Paired.imp2 (fun c r e => ?_) e2⟩
                  rw [upd_ne (fun z => by rw [z, hus3] at e; cases e)]
                  exact e
                · rw [upd_ne nsD2]
                  exact t15.at gsp nsb2
                · rw [upd_ne nGD2]
                  exact t15.at gG nGb
          · rintro σ G' ⟨srs, z4, z9, z10, rfl, hl2, hw2, sg, gP, gS, gsp, gG⟩
            refine ⟨_, rfl, _, rfl, by show 2 ≤ sizeLine; decide, fun p np => ?_⟩
            exact q p D D2 prs srs _ (sg.new np) upd_same (gP.keep (same_upd np)) (gS.keep (same_upd np)) hw hw2 (by omega) (by omega)
end

/-! ## k04d -/
section
variable {P : Program} {w : World} {K : PySem.W.Frag} {mg : Str → Option Value} {base : Heap}
/-- an error as the law tells it -/
def errData : PErr → PyData
  | .tooMany k l => .tuple [.str "TooMany", .str k, .int l]
  | .badWord w => .tuple [.str "BadWord", .str w]
  | .double n => .tuple [.str "DoubleName", .str n]
  | .badNumber n => .tuple [.str "BadNumber", .int n]
  | .empty n => .tuple [.str "EmptyStep", .str n]
  | .unknown n => .tuple [.str "UnknownName", .str n]
def dueO : Option PErr → PyData
  | none => .none
  | some e => errData e
theorem dp_none {H : Hp} {v : V} (h : Dp K H v (dueO none)) : v = .non := by cases h; rfl
theorem dp_some {H : Hp} {v : V} {e : PErr} (h : Dp K H v (dueO (some e))) : v ≠ .non := fun q => by
  subst q
  cases e <;> cases h
abbrev s__law_bad : Stmt := topS 31
theorem sc__law_bad : FnScope ["_law_word_here", "_law_letters"] ["_law_word_here"] (defScope s__law_bad) := ⟨rfl, rfl, rfl, by decide +kernel, rfl, by decide +kernel, by decide +kernel⟩
def spBad : Sp := fun vs H Q _ => ∃ z : Str, vs = [.str z] ∧ OkW z ∧ ∀ H', Same H H' → Q (.bl (!wd z.cps.toList)) H'
theorem ok_bad {k : Nat} (B : Bl mg) (F : Src K mg "_law_bad" s__law_bad ["_law_word_here"]) : Def P w K mg base CX0 (k + 1) "_law_bad" ["_law_word_here"] spBad := by
  refine F.ok sc__law_bad (fun vs H Q E h => ?_) (fun f cdv A outer s H vs Q E hr h => ?_)
  · obtain ⟨z, rfl, _⟩ := h
    rfl
  · obtain ⟨z, rfl, hz, q⟩ := h
    refine ⟨_, (pss_cons (ps_asg pe_str (pg_name (i := 1) sc__law_bad.nd rfl (Or.inl rfl)))
 (pss_one (ps_ret (pe_or (pe_cmpR op_eq (pv 0) pe_str (nomark _)) (pe_or (pe_cmpR op_gt (pe_callB call_len_str (by rfl) B.len PySem.boot_len (pa_cons (pv 0) pa_nil)) pe_int (nomark _)) (pe_one (pe_cmpR op_notIn_sign (pe_ix ix_str (pv 0) pe_int (fun _ _ => rfl)) (pv 1) rfl))))))), ?_⟩
    have hl := len_cps z
    have h13 : z.length ≤ sizeLine := Nat.le_trans hz.2 (by decide)
    have no : ∀ b : Bool, wd z.cps.toList = !b → ∀ H', Same H H' → Q (.bl b) H' := fun b e H' s => by
      have := q H' s
      rw [e, Bool.not_not] at this
      exact this
    refine ⟨_, rfl, rfl, _, rfl, ?_⟩
    refine ite2 (fun h1 => ?_) (fun h1 => ?_)
    · have h1 : z = "" := by simpa using h1
      refine no _ ?_ _ (Same.refl H)
      rw [h1]
      rfl
    · have h1 : z ≠ "" := by simpa using h1
      have hne : z.cps.toList ≠ [] := fun e => h1 (by
        obtain ⟨a⟩ := z
        have : a = #[] := Array.toList_eq_nil_iff.mp e
        rw [this]
        rfl)
      have hp : 1 ≤ z.cps.toList.length := List.length_pos_iff.mpr hne
      refine ⟨_, rfl, _, rfl, h13, _, _, rfl, rfl, _, rfl, ?_⟩
      refine ite2 (fun h2 => ?_) (fun h2 => ?_)
      · have h2 : ¬ (z.length : Int) ≤ 12 := by simpa using h2
        refine no _ ?_ _ (Same.refl H)
        have : ¬ (1 ≤ z.cps.toList.length ∧ z.cps.toList.length ≤ 12) := by omega
        unfold wd
        rw [decide_eq_false this]
        rfl
      · have h2 : (z.length : Int) ≤ 12 := by simpa using h2
        have hc : z.cps.toList[0]? = some (z.cps.toList.headD 0) := by
          cases e : z.cps.toList with
          | nil => exact absurd e hne
          | cons a r => rfl
        have hw : (decide (1 ≤ z.cps.toList.length ∧ z.cps.toList.length ≤ 12)) = true := decide_eq_true (by omega)
        refine ⟨_, rfl, z, _, _, rfl, rfl, h13, atI_nat (j := 0) hc, _, rfl, _, _, rfl, rfl, ?_⟩
        refine no _ ?_ _ (Same.refl H)
        have ha : z.cps.toList.all okc = true := List.all_eq_true.mpr hz.1
        unfold wd
        rw [hw, ha, Bool.true_and, Bool.and_true, Bool.not_not]
        rfl
abbrev s__law_list_due : Stmt := topS 32
theorem sc__law_list_due : FnScope ["_law_names", "_law_words_here", "_law_k"] ["_law_names", "_law_words_here"] (defScope s__law_list_due) := ⟨rfl, rfl, rfl, by decide +kernel, rfl, by decide +kernel, by decide +kernel⟩
def spLD (K : PySem.W.Frag) : Sp := fun vs H Q _ => ∃ (a c : Addr) (ws ks : List Str), vs = [.ref a, .ref c] ∧ SqL K H a (ws.map V.str) ∧ SqL K H c (ks.map V.str) ∧ ws.length ≤ 1000 ∧
  ∀ (v : V) (H' : Hp), Same H H' → Dp K H' v (dueO ((chk ks [] ws).map nameErr)) → Q v H'
theorem ok_ld {k : Nat} (B : Bl mg) (F : Src K mg "_law_list_due" s__law_list_due ["_law_names", "_law_words_here"]) : Def P w K mg base CX0 (k + 1) "_law_list_due" ["_law_names", "_law_words_here"] (spLD K) := by
  refine F.ok sc__law_list_due (fun vs H Q E h => ?_) (fun f cdv A outer s H vs Q E hr h => ?_)
  · obtain ⟨a, c, ws, ks, rfl, _⟩ := h
    rfl
  · obtain ⟨a, c, ws, ks, rfl, ha, hc, hlen, q⟩ := h
    refine ⟨_, (pss_cons (ps_for PassesOwn.never rfl (pi_range1 (by rfl) B.range (pa_cons (pe_callB (kcall_len (K := K)) (by rfl) B.len PySem.boot_len (pa_cons (pv 0) pa_nil)) pa_nil)) (pg_name (i := 2) sc__law_list_due.nd rfl (Or.inl rfl)) (pss_cons (ps_if (pt_cmpR (kop_notIn (K := K)) (pe_ix (kix_list (K := K)) (pv 0) (pv 2) (fun _ _ => rfl)) (pv 1) rfl) (pss_one (ps_ret (pe_tup (pa_cons pe_str (pa_cons (pe_ix (kix_list (K := K)) (pv 0) (pv 2) (fun _ _ => rfl)) pa_nil))))) pss_nil)
 (pss_one (ps_if (pt_cmpR (kop_in (K := K)) (pe_ix (kix_list (K := K)) (pv 0) (pv 2) (fun _ _ => rfl)) (pe_slice (ksl_list (K := K)) (pv 0) po_none (po_some (pv 2))) rfl) (pss_one (ps_ret (pe_tup (pa_cons pe_str (pa_cons (pe_ix (kix_list (K := K)) (pv 0) (pv 2) (fun _ _ => rfl)) pa_nil))))) pss_nil))))
 (pss_one (ps_ret pe_non))), ?_⟩
    refine ⟨_, rfl, a, _, rfl, .inl ha, _, rfl, by omega, by rw [List.length_map]; omega, for_range (lo := 0) (n := ((ws.map V.str).length : Int).toNat) (fun i σ H' => ∃ y, σ = [some (.ref a), some (.ref c), y] ∧ Same H H' ∧ chk ks [] ws = chk ks (ws.take i) (ws.drop i))
      ⟨none, rfl, Same.refl H, rfl⟩ ?_ ?_⟩
    · rintro i σ H' hi ⟨y, rfl, sm, hk⟩
      have hi : i < ws.length := by rw [List.length_map] at hi; omega
      obtain ⟨n, hn⟩ : ∃ n, ws[i]? = some n := ⟨ws[i], List.getElem?_eq_getElem hi⟩
      have hv : (ws.map V.str)[i]? = some (.str n) := by rw [List.getElem?_map, hn]; rfl
      have hat : atI (ws.map V.str) (0 + (i : Int)) = some (.str n) := by rw [Int.zero_add]; exact atI_nat hv
      have hdr : ws.drop i = n :: ws.drop (i + 1) := List.drop_eq_getElem?_toList_append.trans (by rw [hn]; rfl)
      rw [hdr, chk_cons] at hk
      refine ⟨_, rfl, _, rfl, a, _, _, _, rfl, rfl, sm.seq ha, hat, _, rfl, c, _, rfl, .inl (sm.seq hc), rfl, flat_strs _, _, rfl, ?_⟩
      rw [inV_strs]
      refine ite2 (fun h1 => ?_) (fun h1 => ?_)
      · have h1 : n ∉ ks := by simpa using h1
        rw [if_neg h1] at hk
        refine ⟨_, rfl, _, rfl, a, _, _, _, rfl, rfl, sm.seq ha, hat, by show 2 ≤ sizeLine; decide, fun p hp => q _ _ (sm.trans (same_upd hp)) ?_⟩
        rw [hk]
        exact .tup (SqT.of upd_same) (.cons (.str _) (.cons (.str _) .nil))
      · have h1 : n ∈ ks := by simpa using h1
        rw [if_pos h1] at hk
        refine ⟨_, rfl, _, rfl, a, _, _, _, rfl, rfl, sm.seq ha, hat, _, rfl, _, rfl, _, rfl, a, _, rfl, sm.seq ha, fun p hp => ?_⟩
        rw [Int.zero_add, cutV_take, ← List.map_take]
        have sm2 := sm.trans (same_upd (o := .lst ((ws.take i).map V.str)) hp)
        refine ⟨p, _, rfl, .inl (SqL.of upd_same), rfl, flat_strs _, _, rfl, ?_⟩
        rw [inV_strs]
        refine ite2 (fun h2 => ?_) (fun h2 => ?_)
        · have h2 : n ∈ ws.take i := by simpa using h2
          rw [if_pos h2] at hk
          refine ⟨_, rfl, _, rfl, a, _, _, _, rfl, rfl, sm2.seq ha, by rw [← Int.zero_add (i : Int)]; exact hat, by show 2 ≤ sizeLine; decide, fun p2 hp2 => q _ _ (sm2.trans (same_upd hp2)) ?_⟩
          rw [hk]
          exact .tup (SqT.of upd_same) (.cons (.str _) (.cons (.str _) .nil))
        · have h2 : n ∉ ws.take i := by simpa using h2
          rw [if_neg h2] at hk
          refine ⟨_, rfl, sm2, ?_⟩
          rw [take_more hn]
          exact hk
    · rintro σ H' ⟨y, rfl, sm, hk⟩
      rw [List.length_map, Int.toNat_natCast, List.drop_length] at hk
      refine q _ _ sm ?_
      rw [hk]
      exact .non
/-- [row[0] for row in e], the heads texts -/
theorem lc_headsE {te : TE} {σ : L2.St} {H : Hp} {r : Nat} {ts : List Addr} {ws : List Str} {Q : VK} (hp : Paired (fun t z => ∃ rest, H t = some (.tup (.str z :: rest))) ts ws) (hl : ws.length ≤ 1000) (hr : r < σ.length)
    (hte : ∀ F : VK, (∀ a H1, Same H H1 → H1 a = some (.lst (ts.map V.ref)) → F (.ref a) H1) → te σ H F) (q : ∀ (D : Addr) (H' : Hp), Same H H' → H' D = some (.lst (ws.map V.str)) → Q (.ref D) H') :
    tLc (iList K te) (gName r) tYes (tOp (rIxT K) (tVar r) (tC (.int 0))) [r] σ H Q := by
  refine hte _ fun a H1 s1 ha => ?_
  refine ⟨a, rfl, ⟨_, SqL.of ha⟩, fun D nD => lc_list (K := K) (a := a) (xs := ts.map V.ref) (fun i H' => Same H1 H' ∧ H' D = some (.lst ((ws.take i).map V.str))) ⟨same_upd nD, upd_same⟩ (fun i H' _ h' => SqL.of (h'.1 _ _ ha)) ?_ ?_⟩
  · rintro i x H' hi ⟨sm, hD⟩
    obtain ⟨t, ht, rfl⟩ := map_get hi
    obtain ⟨z, hz, rest, hrow⟩ := Paired.get hp ht
    refine ⟨?_, yes_if ?_⟩
    · show ((σ.set r none).set r (some (V.ref t))).set r none = σ.set r none
      rw [List.set_set, List.set_set]
    · have hv : ((σ.set r none).set r (some (V.ref t)))[r]? = some (some (V.ref t)) := by
        rw [List.getElem?_set_self (by rw [List.length_set]; exact hr)]
      refine ⟨_, hv, t, _, _, _, rfl, rfl, SqT.of (sm _ _ (s1 _ _ hrow)), atI_nat (j := 0) rfl, _, hD, ?_, fun b o e => ?_, ?_⟩
      · rw [List.length_map, List.length_take]
        exact small1000 (by omega)
      · rw [upd_ne (ne_of_none e nD)]
        exact sm b o e
      · rw [upd_same, take_more hz, List.map_append]
        rfl
  · rintro H' ⟨sm, hD⟩
    rw [List.length_map, Paired.len hp, List.take_length] at hD
    exact q D H' (s1.trans sm) hD
theorem Paired.take {α β : Type} {R : α → β → Prop} : ∀ {l : List α} {m : List β} (i : Nat), Paired R l m → Paired R (l.take i) (m.take i)
  | _, _, 0, _ => .nil
  | _, _, _ + 1, .nil => .nil
  | _, _, i + 1, .cons x y => .cons x (Paired.take i y)
theorem Paired.get' {α β : Type} {R : α → β → Prop} : ∀ {l : List α} {m : List β} {i : Nat} {b : β}, Paired R l m → m[i]? = some b → ∃ a, l[i]? = some a ∧ R a b
  | _, _, _, _, .nil, h => by simp at h
  | _, _, 0, _, .cons x _, h => by cases h; exact ⟨_, rfl, x⟩
  | _, _, i + 1, _, .cons _ y, h => Paired.get' (i := i) y h
def RowW (r : SRow) : Prop := OkW r.1 ∧ (∀ y ∈ r.2.1, OkW y) ∧ (∀ y ∈ r.2.2, OkW y) ∧ r.2.1.length ≤ 10 ∧ r.2.2.length ≤ 10
/-- what `_law_step_due` finds at the row -/
abbrev s__law_step_due : Stmt := topS 33
theorem sc__law_step_due : FnScope ["_law_steps", "_law_k", "_law_words_here", "_law_word_here", "_law_taken", "_law_given", "_law_due_here", "_law_row"] ["_law_steps", "_law_k", "_law_words_here"] (defScope s__law_step_due) := ⟨rfl, rfl, rfl, by decide +kernel, rfl, by decide +kernel, by decide +kernel⟩
def spSD (K : PySem.W.Frag) : Sp := fun vs H Q _ => ∃ (a c : Addr) (srs : List SRow) (i : Nat) (r : SRow) (ks : List Str), vs = [.ref a, .int i, .ref c] ∧ SRows H a srs ∧ srs[i]? = some r ∧ srs.length ≤ 20 ∧ RowW r ∧ H c = some (.lst (ks.map V.str)) ∧
  ∀ (v : V) (H' : Hp), Same H H' → Dp K H' v (dueO (stepDue ks ((srs.take i).map (·.1)) r)) → Q v H'
theorem ok_sd {k : Nat} (B : Bl mg) (D__law_bad : Def P w K mg base CX0 k "_law_bad" ["_law_word_here"] spBad) (D__law_list_due : Def P w K mg base CX0 k "_law_list_due" ["_law_names", "_law_words_here"] (spLD K)) (F : Src K mg "_law_step_due" s__law_step_due ["_law_steps", "_law_k", "_law_words_here"]) : Def P w K mg base CX0 (k + 1) "_law_step_due" ["_law_steps", "_law_k", "_law_words_here"] (spSD K) := by
  refine F.ok sc__law_step_due (fun vs H Q E h => ?_) (fun f cdv A outer s H vs Q E hr h => ?_)
  · obtain ⟨a, c, srs, i, r, ks, rfl, _⟩ := h
    rfl
  · obtain ⟨a, c, srs, i, r, ks, rfl, hS, hi, hlen, hrw, hc, q⟩ := h
    refine ⟨_, (pss_cons (ps_asg (pe_ix (kix_list (K := K)) (pv 0) (pv 1) (fun _ _ => rfl)) (pg_tup rfl (pgs_cons (pg_name (i := 3) sc__law_step_due.nd rfl (Or.inl rfl)) (pgs_cons (pg_name (i := 4) sc__law_step_due.nd rfl (Or.inl rfl)) (pgs_cons (pg_name (i := 5) sc__law_step_due.nd rfl (Or.inl rfl)) pgs_nil)))))
 (pss_cons (ps_if (pt_val (pe_def D__law_bad hr pass0 (pa_cons (pv 3) pa_nil))) (pss_one (ps_ret (pe_tup (pa_cons pe_str (pa_cons (pv 3) pa_nil))))) pss_nil)
 (pss_cons (ps_if (pt_cmpR (kop_in (K := K)) (pv 3) (pe_lc (own := [("_law_row", 7)]) (g := gName 7) (by rfl) sc__law_step_due.nd (kpi_list (K := K) (pe_slice (ksl_list (K := K)) (pv 0) po_none (po_some (pv 1)))) (blkOk_by (N := ["_law_steps", "_law_k", "_law_words_here", "_law_word_here", "_law_taken", "_law_given", "_law_due_here", "_law_row"]) (sc := defScope s__law_step_due) (by decide +kernel)) (fun _ _ _ _ _ => (pg_name (i := 7) sc__law_step_due.nd rfl (Or.inl rfl))) (fun _ _ _ _ _ => pts_nil) (fun _ _ _ _ _ => (pe_ix (kix_tup (K := K)) (pv 7) pe_int (fun _ _ => rfl)))) rfl) (pss_one (ps_ret (pe_tup (pa_cons pe_str (pa_cons (pv 3) pa_nil))))) pss_nil)
 (pss_cons (ps_if (pt_cmpR (kop_eqD (K := K) hr.units) (pv 4) (pe_lst pa_nil) (nomark _)) (pss_one (ps_ret (pe_tup (pa_cons pe_str (pa_cons (pv 3) pa_nil))))) pss_nil)
 (pss_cons (ps_asg (pe_def D__law_list_due hr pass0 (pa_cons (pv 4) (pa_cons (pv 2) pa_nil))) (pg_name (i := 6) sc__law_step_due.nd rfl (Or.inl rfl)))
 (C8.pss_cut (ps_if (pt_cmpR op_isN (pv 6) pe_non (nomark _)) (pss_one (ps_asg (pe_def D__law_list_due hr pass0 (pa_cons (pv 5) (pa_cons (pv 2) pa_nil))) (pg_name (i := 6) sc__law_step_due.nd rfl (Or.inl rfl)))) pss_nil)
 (pss_one (ps_ret (pv 6))))))))), ?_⟩
    obtain ⟨ts, hts, pts⟩ := hS
    obtain ⟨t, ht, b1, c1, e1, e2, e3, _, _⟩ := Paired.get' pts hi
    have hv : (ts.map V.ref)[i]? = some (.ref t) := by rw [List.getElem?_map, ht]; rfl
    refine ⟨_, rfl, _, rfl, a, _, _, _, rfl, rfl, SqL.of hts, atI_nat hv, ?_⟩
    refine ⟨t, _, rfl, SqT.of e1, rfl, ?_⟩
    -- the word
    refine ⟨_, _, rfl, _, _, rfl, _, _, rfl, rfl, ?_⟩
    refine ⟨_, rfl, r.1, rfl, hrw.1, fun H1 s1 => ⟨_, rfl, ?_⟩⟩
    unfold stepDue at q
    refine ite2 (fun h1 => ?_) (fun h1 => ?_)
    · have h1 : ¬ wd r.1.cps.toList = true := by simpa using h1
      rw [if_neg h1] at q
      exact ⟨_, rfl, by show 2 ≤ sizeLine; decide, fun p np => q _ _ (s1.trans (same_upd np)) (.tup (SqT.of upd_same) (.cons (.str _) (.cons (.str _) .nil)))⟩
    · have h1 : wd r.1.cps.toList = true := by simpa using h1
      rw [if_pos h1] at q
      -- twice
      refine ⟨_, rfl, ?_⟩
      have pts1 : Paired (fun t z => ∃ rest, H1 t = some (.tup (.str z :: rest))) (ts.take i) ((srs.take i).map (·.1)) := SRows.heads (Paired.take i (Paired.imp2 (fun _ _ ⟨b, c, x, y, z, u⟩ => ⟨b, c, s1 _ _ x, s1 _ _ y, s1 _ _ z, u⟩) pts))
      refine lc_headsE pts1 (by rw [List.length_map, List.length_take]; omega) (by show 7 < 8; decide) (fun G hG => ?_) fun D H2 s2 hD => ?_
      · refine ⟨_, rfl, _, rfl, _, rfl, a, _, rfl, SqL.of (s1 _ _ hts), fun p np => ?_⟩
        rw [cutV_take, ← List.map_take]
        exact hG p _ (same_upd np) upd_same
      · refine ⟨D, _, rfl, .inl (SqL.of hD), rfl, flat_strs _, _, rfl, ?_⟩
        rw [inV_strs]
        have s12 := s1.trans s2
        refine ite2 (fun h2 => ?_) (fun h2 => ?_)
        · have h2 : r.1 ∈ (srs.take i).map (·.1) := by simpa using h2
          rw [if_pos h2] at q
          exact ⟨_, rfl, by show 2 ≤ sizeLine; decide, fun p np => q _ _ (s12.trans (same_upd np)) (.tup (SqT.of upd_same) (.cons (.str _) (.cons (.str _) .nil)))⟩
        · have h2 : r.1 ∉ (srs.take i).map (·.1) := by simpa using h2
          rw [if_neg h2] at q
          -- nothing taken
          refine ⟨_, rfl, Nat.zero_le _, fun p np => ?_⟩
          have s13 := s12.trans (same_upd (o := .lst []) np)
          have shp : nb (dStrs r.2.1) = true ∧ SeqAt.shaped (dStrs r.2.1) = true := by
            have h := nb_strs fun y hy => (hrw.2.1 y hy).asc
            exact ⟨h, shaped_of h (by simp only [PyData.depth]; have := depth_strs r.2.1; omega)⟩
          refine ⟨_, _, .lst (SqL.of (s13 _ _ e2)) (dpall_strs r.2.1), .lst (SqL.of upd_same) .nil, shp.2, rfl, _, rfl, ?_⟩
          refine ite2 (fun h3 => ?_) (fun h3 => ?_)
          · have h3 : r.2.1 = [] := by
              cases e : r.2.1 with
              | nil => rfl
              | cons x l => rw [e] at h3; exact absurd h3 Bool.noConfusion
            rw [if_pos h3] at q
            exact ⟨_, rfl, by show 2 ≤ sizeLine; decide, fun p np => q _ _ (s13.trans (same_upd np)) (.tup (SqT.of upd_same) (.cons (.str _) (.cons (.str _) .nil)))⟩
          · have h3 : r.2.1 ≠ [] := fun e => by
              rw [e] at h3
              exact absurd h3 (by decide)
            rw [if_neg h3] at q
            refine ⟨_, rfl, _, rfl, b1, c, r.2.1, ks, rfl, SqL.of (s13 _ _ e2), SqL.of (s13 _ _ hc), by have := hrw.2.2.2.1; omega, fun v H4 s4 dv => ?_⟩
            have s14 := s13.trans s4
            refine ⟨fun σ' H' => ∃ v', σ' = [some (.ref a), some (.int i), some (.ref c), some (.str r.1), some (.ref b1), some (.ref c1), some v', none] ∧ Same H H' ∧ Dp K H' v' (dueO (match chk ks [] r.2.1 with
              | some x => some (nameErr x)
              | none => (chk ks [] r.2.2).map nameErr)), ?_, ?_⟩
            · refine ⟨_, rfl, rfl, _, rfl, ?_⟩
              cases e : chk ks [] r.2.1 with
              | none =>
                rw [e] at dv
                have hv := dp_none dv
                subst hv
                refine iteT ⟨_, rfl, _, rfl, c1, c, r.2.2, ks, rfl, SqL.of (s14 _ _ e3), SqL.of (s14 _ _ hc), by have := hrw.2.2.2.2; omega, fun v2 H5 s5 dv2 => ?_⟩
                exact ⟨v2, rfl, s14.trans s5, dv2⟩
              | some x =>
                rw [e] at dv
                have hv : v ≠ .non := dp_some (e := nameErr x) dv
                rw [decide_eq_false hv]
                exact iteF ⟨v, rfl, s14, dv⟩
            · rintro σ' H' ⟨v', rfl, s', dv'⟩
              exact ⟨_, rfl, q v' H' s' dv'⟩
theorem drop_at {α : Type} {l : List α} {i : Nat} {n : α} (h : l[i]? = some n) : l.drop i = n :: l.drop (i + 1) := List.drop_eq_getElem?_toList_append.trans (by rw [h]; rfl)
theorem go_next {D : Ends} {σ : L2.St} {H : Hp} (h : D.nx σ H) : tNext D σ H := h
theorem dp_err {H : Hp} {p : Addr} (e : PErr) (xs : List V) (h : H p = some (.tup xs)) (hx : ∀ K : PySem.W.Frag, Dp K H (.ref p) (errData e)) : Dp K H (.ref p) (dueO (some e)) := hx K
abbrev s__law_due : Stmt := topS 34
theorem sc__law_due : FnScope ["_law_places", "_law_steps", "_law_words_here", "_law_k", "_law_due_here", "_law_row"] ["_law_places", "_law_steps"] (defScope s__law_due) := ⟨rfl, rfl, rfl, by decide +kernel, rfl, by decide +kernel, by decide +kernel⟩
def spDueP (K : PySem.W.Frag) : Sp := fun vs H Q _ => ∃ (a c : Addr) (prs : List (Str × Int)) (srs : List SRow), vs = [.ref a, .ref c] ∧ PRows H a prs ∧ SRows H c srs ∧ prs.length ≤ 20 ∧ srs.length ≤ 20 ∧ (∀ r ∈ prs, OkW r.1) ∧ (∀ r ∈ srs, RowW r) ∧
  ∀ (v : V) (H' : Hp), Same H H' → Dp K H' v (dueO (planDue prs srs)) → Q v H'
theorem ok_dueP {k : Nat} (B : Bl mg) (D__law_bad : Def P w K mg base CX0 k "_law_bad" ["_law_word_here"] spBad) (D__law_step_due : Def P w K mg base CX0 k "_law_step_due" ["_law_steps", "_law_k", "_law_words_here"] (spSD K)) (F : Src K mg "_law_due" s__law_due ["_law_places", "_law_steps"]) : Def P w K mg base CX0 (k + 1) "_law_due" ["_law_places", "_law_steps"] (spDueP K) := by
  refine F.ok sc__law_due (fun vs H Q E h => ?_) (fun f cdv A outer s H vs Q E hr h => ?_)
  · obtain ⟨a, c, prs, srs, rfl, _⟩ := h
    rfl
  · obtain ⟨a, c, prs, srs, rfl, hP, hS, lP, lS, wP, wS, q⟩ := h
    refine ⟨_, (pss_cons (ps_if (pt_cmpR op_gt (pe_callB (kcall_len (K := K)) (by rfl) B.len PySem.boot_len (pa_cons (pv 0) pa_nil)) pe_int (nomark _)) (pss_one (ps_ret (pe_tup (pa_cons pe_str (pa_cons pe_str (pa_cons pe_int pa_nil)))))) pss_nil)
 (pss_cons (ps_if (pt_cmpR op_gt (pe_callB (kcall_len (K := K)) (by rfl) B.len PySem.boot_len (pa_cons (pv 1) pa_nil)) pe_int (nomark _)) (pss_one (ps_ret (pe_tup (pa_cons pe_str (pa_cons pe_str (pa_cons pe_int pa_nil)))))) pss_nil)
 (pss_cons (ps_setLc (i := 2) (own := [("_law_row", 5)]) (g := gName 5) (by rfl) sc__law_due.nd rfl rfl (sw_true rfl rfl rfl (by decide +kernel)) (kpi_list (K := K) (pv 0)) (blkOk_by (N := ["_law_places", "_law_steps", "_law_words_here", "_law_k", "_law_due_here", "_law_row"]) (sc := defScope s__law_due) (by decide +kernel)) (fun _ _ _ _ _ => (pg_name (i := 5) sc__law_due.nd rfl (Or.inl rfl))) (fun _ _ _ _ _ => pts_nil) (fun _ _ _ _ _ => (pe_ix (kix_tup (K := K)) (pv 5) pe_int (fun _ _ => rfl))))
 (pss_cons (ps_for PassesOwn.never rfl (pi_range1 (by rfl) B.range (pa_cons (pe_callB (kcall_len (K := K)) (by rfl) B.len PySem.boot_len (pa_cons (pv 0) pa_nil)) pa_nil)) (pg_name (i := 3) sc__law_due.nd rfl (Or.inl rfl)) (pss_cons (ps_if (pt_val (pe_def D__law_bad hr pass0 (pa_cons (pe_ix (kix_list (K := K)) (pv 2) (pv 3) (fun _ _ => rfl)) pa_nil))) (pss_one (ps_ret (pe_tup (pa_cons pe_str (pa_cons (pe_ix (kix_list (K := K)) (pv 2) (pv 3) (fun _ _ => rfl)) pa_nil))))) pss_nil)
 (pss_cons (ps_if (pt_cmpR (kop_in (K := K)) (pe_ix (kix_list (K := K)) (pv 2) (pv 3) (fun _ _ => rfl)) (pe_slice (ksl_list (K := K)) (pv 2) po_none (po_some (pv 3))) rfl) (pss_one (ps_ret (pe_tup (pa_cons pe_str (pa_cons (pe_ix (kix_list (K := K)) (pv 2) (pv 3) (fun _ _ => rfl)) pa_nil))))) pss_nil)
 (pss_one (ps_if (PW.pt (pw_or (pt_cmpR op_lt (pe_ix (kix_tup (K := K)) (pe_ix (kix_list (K := K)) (pv 0) (pv 3) (fun _ _ => rfl)) pe_int (fun _ _ => rfl)) pe_int (nomark _)) (pw_or1 (pt_cmpR op_gt (pe_ix (kix_tup (K := K)) (pe_ix (kix_list (K := K)) (pv 0) (pv 3) (fun _ _ => rfl)) pe_int (fun _ _ => rfl)) pe_int (nomark _))))) (pss_one (ps_ret (pe_tup (pa_cons pe_str (pa_cons (pe_ix (kix_tup (K := K)) (pe_ix (kix_list (K := K)) (pv 0) (pv 3) (fun _ _ => rfl)) pe_int (fun _ _ => rfl)) pa_nil))))) pss_nil)))))
 (pss_cons (ps_for PassesOwn.never rfl (pi_range1 (by rfl) B.range (pa_cons (pe_callB (kcall_len (K := K)) (by rfl) B.len PySem.boot_len (pa_cons (pv 1) pa_nil)) pa_nil)) (pg_name (i := 3) sc__law_due.nd rfl (Or.inl rfl)) (pss_cons (ps_asg (pe_def D__law_step_due hr pass0 (pa_cons (pv 1) (pa_cons (pv 3) (pa_cons (pv 2) pa_nil)))) (pg_name (i := 4) sc__law_due.nd rfl (Or.inl rfl)))
 (pss_one (ps_if (pt_cmpR op_notN (pv 4) pe_non (nomark _)) (pss_one (ps_ret (pv 4))) pss_nil))))
 (pss_one (ps_ret pe_non))))))), ?_⟩
    obtain ⟨ts, hts, pts⟩ := id hP
    obtain ⟨us, hus, pus⟩ := id hS
    have l1 : (ts.map V.ref).length = prs.length := by rw [List.length_map]; exact Paired.len pts
    have l2 : (us.map V.ref).length = srs.length := by rw [List.length_map]; exact Paired.len pus
    unfold planDue at q
    -- too many
    refine ⟨_, rfl, a, _, rfl, .inl (SqL.of hts), _, _, rfl, rfl, _, rfl, ?_⟩
    rw [l1]
    refine ite2 (fun h1 => ?_) (fun h1 => ?_)
    · have h1 : 12 < prs.length := by have := of_decide_eq_true h1; omega
      rw [if_pos h1] at q
      exact ⟨by show 3 ≤ sizeLine; decide, fun p np => q _ _ (same_upd np) (.tup (SqT.of upd_same) (.cons (.str _) (.cons (.str _) (.cons (.int _) .nil))))⟩
    have h1 : ¬ 12 < prs.length := by simp at h1; omega
    rw [if_neg h1] at q
    refine ⟨_, rfl, c, _, rfl, .inl (SqL.of hus), _, _, rfl, rfl, _, rfl, ?_⟩
    rw [l2]
    refine ite2 (fun h2 => ?_) (fun h2 => ?_)
    · have h2 : 16 < srs.length := by have := of_decide_eq_true h2; omega
      rw [if_pos h2] at q
      exact ⟨by show 3 ≤ sizeLine; decide, fun p np => q _ _ (same_upd np) (.tup (SqT.of upd_same) (.cons (.str _) (.cons (.str _) (.cons (.int _) .nil))))⟩
    have h2 : ¬ 16 < srs.length := by simp at h2; omega
    rw [if_neg h2] at q
    -- the words of the places
    refine go_next ?_
    dsimp only
    refine go_asg ?_
    refine lc_heads hts (PRows.heads pts) (by rw [List.length_map]; omega) (by rfl) (by show 5 < 6; decide) fun G H1 nG s1 hG => ?_
    refine ⟨_, rfl, a, _, rfl, .inl (SqL.of (s1 _ _ hts)), _, rfl, by omega, by omega, for_range (lo := 0) (n := ((ts.map V.ref).length : Int).toNat) (fun i σ H' => ∃ y, σ = [some (.ref a), some (.ref c), some (.ref G), y, none, none] ∧ Same H1 H' ∧ placesDue [] prs = placesDue ((prs.take i).map (·.1)) (prs.drop i))
      ⟨none, rfl, Same.refl H1, rfl⟩ ?_ ?_⟩
    · rintro i σ H' hi ⟨y, rfl, sm, hk⟩
      rw [l1] at hi
      obtain ⟨r, hr1⟩ : ∃ r, prs[i]? = some r := ⟨prs[i], List.getElem?_eq_getElem (by omega)⟩
      obtain ⟨n, num⟩ := r
      obtain ⟨t, ht, e1⟩ := Paired.get' pts hr1
      have hv : (ts.map V.ref)[i]? = some (.ref t) := by rw [List.getElem?_map, ht]; rfl
      have hn : ((prs.map (·.1)))[i]? = some n := by rw [List.getElem?_map, hr1]; rfl
      have hg : ((prs.map (·.1)).map V.str)[i]? = some (.str n) := by rw [List.getElem?_map, hn]; rfl
      have hat : atI ((prs.map (·.1)).map V.str) (0 + (i : Int)) = some (.str n) := by rw [Int.zero_add]; exact atI_nat hg
      have hat2 : atI (ts.map V.ref) (0 + (i : Int)) = some (.ref t) := by rw [Int.zero_add]; exact atI_nat hv
      rw [drop_at hr1, placesDue_cons] at hk
      have hG' := sm _ _ hG
      refine ⟨_, rfl, _, rfl, G, _, _, _, rfl, rfl, SqL.of hG', hat, n, rfl, wP _ (List.mem_of_getElem? hr1), fun H2 s2 => ⟨_, rfl, ?_⟩⟩
      have sm2 := sm.trans s2
      have hG2 := sm2 _ _ hG
      refine ite2 (fun h3 => ?_) (fun h3 => ?_)
      · have h3 : ¬ wd n.cps.toList = true := by simpa using h3
        rw [if_neg h3] at hk
        rw [hk] at q
        exact ⟨_, rfl, _, rfl, G, _, _, _, rfl, rfl, SqL.of hG2, hat, by show 2 ≤ sizeLine; decide, fun p np => q _ _ ((s1.trans sm2).trans (same_upd np)) (.tup (SqT.of upd_same) (.cons (.str _) (.cons (.str _) .nil)))⟩
      · have h3 : wd n.cps.toList = true := by simpa using h3
        rw [if_pos h3] at hk
        refine ⟨_, rfl, _, rfl, G, _, _, _, rfl, rfl, SqL.of hG2, hat, _, rfl, _, rfl, _, rfl, G, _, rfl, SqL.of hG2, fun p hp => ?_⟩
        rw [Int.zero_add, cutV_take, ← List.map_take, ← List.map_take]
        have sm3 := sm2.trans (same_upd (o := .lst (((prs.take i).map (·.1)).map V.str)) hp)
        have hG3 := sm3 _ _ hG
        refine ⟨p, _, rfl, .inl (SqL.of upd_same), rfl, flat_strs _, _, rfl, ?_⟩
        rw [inV_strs]
        refine ite2 (fun h4 => ?_) (fun h4 => ?_)
        · have h4 : n ∈ (prs.take i).map (·.1) := by simpa using h4
          rw [if_pos h4] at hk
          rw [hk] at q
          exact ⟨_, rfl, _, rfl, G, _, _, _, rfl, rfl, SqL.of hG3, by rw [← Int.zero_add (i : Int)]; exact hat, by show 2 ≤ sizeLine; decide, fun p np => q _ _ ((s1.trans sm3).trans (same_upd np)) (.tup (SqT.of upd_same) (.cons (.str _) (.cons (.str _) .nil)))⟩
        · have h4 : n ∉ (prs.take i).map (·.1) := by simpa using h4
          rw [if_neg h4] at hk
          have hts3 := (s1.trans sm3) _ _ hts
          have e3 := (s1.trans sm3) _ _ e1
          have hat3 : atI (ts.map V.ref) (i : Int) = some (.ref t) := atI_nat hv
          have bad : ¬ (0 ≤ num ∧ num ≤ 99) → ∀ (p : Addr) (H4 : Hp), Same H H4 → H4 p = some (.tup [.str "BadNumber", .int num]) → Q (.ref p) H4 := fun h5 p H4 s4 hp => by
            rw [if_neg h5] at hk
            rw [hk] at q
            exact q _ _ s4 (.tup (SqT.of hp) (.cons (.str _) (.cons (.int _) .nil)))
          refine ⟨_, rfl, _, rfl, a, _, _, _, rfl, rfl, SqL.of hts3, hat3, t, _, _, _, rfl, rfl, SqT.of e3, atI_nat (j := 1) rfl, _, _, rfl, rfl, _, rfl, ?_⟩
          refine ite2 (fun h5 => ?_) (fun h5 => ?_)
          · have h5 : num < 0 := of_decide_eq_true h5
            exact ⟨_, rfl, _, rfl, a, _, _, _, rfl, rfl, SqL.of hts3, hat3, t, _, _, _, rfl, rfl, SqT.of e3, atI_nat (j := 1) rfl, by show 2 ≤ sizeLine; decide, fun p np => bad (by omega) _ _ ((s1.trans sm3).trans (same_upd np)) upd_same⟩
          · have h5 : ¬ num < 0 := by simpa using h5
            refine ⟨_, rfl, _, rfl, a, _, _, _, rfl, rfl, SqL.of hts3, hat3, t, _, _, _, rfl, rfl, SqT.of e3, atI_nat (j := 1) rfl, _, _, rfl, rfl, _, rfl, ?_⟩
            refine ite2 (fun h6 => ?_) (fun h6 => ?_)
            · have h6 : 99 < num := of_decide_eq_true h6
              exact ⟨_, rfl, _, rfl, a, _, _, _, rfl, rfl, SqL.of hts3, hat3, t, _, _, _, rfl, rfl, SqT.of e3, atI_nat (j := 1) rfl, by show 2 ≤ sizeLine; decide, fun p np => bad (by omega) _ _ ((s1.trans sm3).trans (same_upd np)) upd_same⟩
            · have h6 : ¬ 99 < num := by simpa using h6
              rw [if_pos (show 0 ≤ num ∧ num ≤ 99 by omega)] at hk
              refine ⟨_, rfl, sm3, ?_⟩
              rw [take_more hr1, List.map_append]
              exact hk
    · rintro σ H' ⟨y, rfl, sm, hk⟩
      rw [l1, Int.toNat_natCast, List.drop_length] at hk
      have hk : placesDue [] prs = none := hk
      rw [hk] at q
      have s2 := s1.trans sm
      have hG' := sm _ _ hG
      refine ⟨_, rfl, c, _, rfl, .inl (SqL.of (s2 _ _ hus)), _, rfl, by omega, by omega, for_range (lo := 0) (n := ((us.map V.ref).length : Int).toNat) (fun i σ H3 => ∃ y y2, σ = [some (.ref a), some (.ref c), some (.ref G), y, y2, none] ∧ Same H' H3 ∧ stepsDue (prs.map (·.1)) [] srs = stepsDue (prs.map (·.1)) ((srs.take i).map (·.1)) (srs.drop i))
        ⟨_, none, rfl, Same.refl H', rfl⟩ ?_ ?_⟩
      · rintro i σ H3 hi ⟨y, y2, rfl, sm3, hk3⟩
        rw [l2] at hi
        obtain ⟨r, hr1⟩ : ∃ r, srs[i]? = some r := ⟨srs[i], List.getElem?_eq_getElem (by omega)⟩
        rw [drop_at hr1, stepsDue_cons] at hk3
        have s4 := s2.trans sm3
        refine ⟨_, rfl, _, rfl, _, rfl, c, G, srs, i, r, prs.map (·.1), by rw [Int.zero_add]; rfl, hS.keep s4, hr1, by omega, wS _ (List.mem_of_getElem? hr1), sm3 _ _ hG', fun v H4 s5 dv => ?_⟩
        refine ⟨_, rfl, rfl, _, rfl, ?_⟩
        cases e : stepDue (prs.map (·.1)) ((srs.take i).map (·.1)) r with
        | none =>
          rw [e] at dv hk3
          have hv := dp_none dv
          subst hv
          refine iteF ⟨_, _, rfl, sm3.trans s5, ?_⟩
          rw [take_more hr1, List.map_append]
          exact hk3
        | some x =>
          rw [e] at dv hk3
          have hv := dp_some dv
          rw [decide_eq_false hv]
          rw [hk3] at q
          exact iteT ⟨_, rfl, q _ _ (s4.trans s5) dv⟩
      · rintro σ H3 ⟨y, y2, rfl, sm3, hk3⟩
        rw [l2, Int.toNat_natCast, List.drop_length] at hk3
        have hk3 : stepsDue (prs.map (·.1)) [] srs = none := hk3
        rw [hk3] at q
        exact q _ _ (s2.trans sm3) .non
/-! the data of errors is plain -/
theorem okw_ok {z : Str} (h : OkW z) : PyData.strOk z = true := h.asc.ok
theorem nb_t2 {a b : Str} (ha : PyData.strOk a = true) (hb : PyData.strOk b = true) : nb (.tuple [.str a, .str b]) = true := by
  show (PyData.strOk a && (PyData.strOk b && true)) = true
  rw [ha, hb]
  rfl
theorem nb_name {x : Bool × Str} (h : OkW x.2) : nb (errData (nameErr x)) = true := by
  obtain ⟨b, n⟩ := x
  cases b
  · exact nb_t2 (by decide +kernel) (okw_ok h)
  · exact nb_t2 (by decide +kernel) (okw_ok h)
theorem nb_places : ∀ {prs : List (Str × Int)} {seen : List Str} {e : PErr}, (∀ r ∈ prs, OkW r.1) → placesDue seen prs = some e → nb (errData e) = true
  | [], _, _, _, h => by cases h
  | (n, v) :: r, seen, e, hw, h => by
    have hn := okw_ok (hw _ (List.mem_cons_self ..))
    rw [placesDue_cons] at h
    split at h
    · split at h
      · cases h
        exact nb_t2 (by decide +kernel) hn
      · split at h
        · exact nb_places (fun r hr => hw r (List.mem_cons_of_mem _ hr)) h
        · cases h
          have hs : PyData.strOk "BadNumber" = true := by decide +kernel
          show (PyData.strOk "BadNumber" && (true && true)) = true
          rw [hs]
          rfl
    · cases h
      exact nb_t2 (by decide +kernel) hn
theorem nb_step {ks seen : List Str} {r : SRow} {e : PErr} (hw : RowW r) (h : stepDue ks seen r = some e) : nb (errData e) = true := by
  have hn := okw_ok hw.1
  unfold stepDue at h
  split at h
  · split at h
    · cases h
      exact nb_t2 (by decide +kernel) hn
    · split at h
      · cases h
        exact nb_t2 (by decide +kernel) hn
      · split at h
        · rename_i x hx
          cases h
          exact nb_name (hw.2.1 _ (chk_mem (b := x.1) (n := x.2) hx))
        · cases hx : chk ks [] r.2.2 with
          | none => rw [hx] at h; cases h
          | some x =>
            rw [hx] at h
            cases h
            exact nb_name (hw.2.2.1 _ (chk_mem (b := x.1) (n := x.2) hx))
  · cases h
    exact nb_t2 (by decide +kernel) hn
theorem nb_steps {ks : List Str} : ∀ {srs : List SRow} {seen : List Str} {e : PErr}, (∀ r ∈ srs, RowW r) → stepsDue ks seen srs = some e → nb (errData e) = true
  | [], _, _, _, h => by cases h
  | s :: r, seen, e, hw, h => by
    rw [stepsDue_cons] at h
    split at h
    · rename_i x hx
      cases h
      exact nb_step (hw _ (List.mem_cons_self ..)) hx
    · exact nb_steps (fun r hr => hw r (List.mem_cons_of_mem _ hr)) h
theorem nb_dueO {prs : List (Str × Int)} {srs : List SRow} (wP : ∀ r ∈ prs, OkW r.1) (wS : ∀ r ∈ srs, RowW r) : nb (dueO (planDue prs srs)) = true := by
  cases h : planDue prs srs with
  | none => rfl
  | some e =>
    show nb (errData e) = true
    unfold planDue at h
    split at h
    · cases h
      decide +kernel
    · split at h
      · cases h
        decide +kernel
      · split at h
        · rename_i x hx
          cases h
          exact nb_places wP hx
        · exact nb_steps wS h
theorem depth_dueO (o : Option PErr) : (dueO o).depth ≤ 64 := by
  cases o with
  | none => decide
  | some e => cases e <;> simp [dueO, errData, PyData.depth, PyData.depthAll]
inductive PKind where
  | tooMany | badWord | double | badNumber | empty | unknown
  deriving DecidableEq
def kcls (cs : ECs) : PKind → Addr
  | .tooMany => cs.tooMany
  | .badWord => cs.badWord
  | .double => cs.double
  | .badNumber => cs.badNumber
  | .empty => cs.empty
  | .unknown => cs.unknown
structure ErrKinds (K : PySem.W.Frag) (cs : ECs) (CH : Addr) : Prop where
  held : ∀ i, PySem.W.kitOne K (.ref (kcls cs i)) (.ref CH) = some true
  other : ∀ i j, i ≠ j → PySem.W.exmOne K (.ref (kcls cs i)) (.ref (kcls cs j)) = some false
abbrev s__law_told : Stmt := topS 35
theorem sc__law_told : FnScope ["_law_places", "_law_steps", "_law_told_here", "_law_based", "_law_plan", "e", "_law_row"] ["_law_places", "_law_steps"] (defScope s__law_told) := ⟨rfl, rfl, rfl, by decide +kernel, rfl, by decide +kernel, by decide +kernel⟩
def spTold (K : PySem.W.Frag) : Sp := spDueP K
theorem ok_told {k : Nat} {cs : ECs} {C C_HeldError f_TooMany f_BadWord f_BadNumber f_UnknownName f_DoubleName f_EmptyStep : Addr} (B : Bl mg) (T_Plan : PlanC K mg C) (m_Plan : mg "Plan" = some (.ref C)) (g_HeldError : Glo mg "HeldError" (.ref C_HeldError))
    (X_TooMany : ErrTxt P K mg true "TooMany" cs.tooMany f_TooMany ["kind", "limit"]) (X_BadWord : ErrTxt P K mg false "BadWord" cs.badWord f_BadWord ["word"]) (X_BadNumber : ErrTxt P K mg false "BadNumber" cs.badNumber f_BadNumber ["number"])
    (X_UnknownName : ErrTxt P K mg false "UnknownName" cs.unknown f_UnknownName ["name"]) (X_DoubleName : ErrTxt P K mg false "DoubleName" cs.double f_DoubleName ["name"]) (X_EmptyStep : ErrTxt P K mg false "EmptyStep" cs.empty f_EmptyStep ["name"])
    (kk : ErrKinds K cs C_HeldError)
    (DI_Plan : DefI P w K mg base (L2.CX P w) k C ["self", "places", "steps"] (spInit K cs C))
    (F : Src K mg "_law_told" s__law_told ["_law_places", "_law_steps"]) : Def P w K mg base CX0 (k + 2) "_law_told" ["_law_places", "_law_steps"] (spTold K) := by
  refine F.ok sc__law_told (fun vs H Q E h => ?_) (fun f cdv A outer s H vs Q E hr h => ?_)
  · obtain ⟨a, c, prs, srs, rfl, _⟩ := h
    rfl
  · obtain ⟨a, c, prs, srs, rfl, hP, hS, lP, lS, wP, wS, q⟩ := h
    refine ⟨_, (pss_cons (ps_asg pe_non (pg_name (i := 2) sc__law_told.nd rfl (Or.inl rfl)))
 (pss_cons (ps_asg pe_bl (pg_name (i := 3) sc__law_told.nd rfl (Or.inl rfl)))
 (C8.pss_cut (ps_try_all (K := K) rfl rfl sc__law_told.nd takes0 (fun W pn xe tk _ => (pss_cons (ps_asg (pe_mkD DI_Plan m_Plan hr (fun σ => passAt tk σ) (pa_cons (pv 0) (pa_cons (pv 1) pa_nil))) (pg_name (i := 4) sc__law_told.nd rfl (Or.inl rfl)))
 (pss_one (ps_if (PW.pt (pw_or (pt_cmpR (kop_neD (K := K) hr.units) (pe_callTy (kcall_list (K := K)) (by rfl) B.list' (by decide +kernel) (pa_cons (kpe_fld (K := K) (pv 4)) pa_nil)) (pe_lc (own := [("_law_row", 6)]) (g := gName 6) (by rfl) sc__law_told.nd (kpi_list (K := K) (pv 0)) (blkOk_by (N := ["_law_places", "_law_steps", "_law_told_here", "_law_based", "_law_plan", "e", "_law_row"]) (sc := defScope s__law_told) (by decide +kernel)) (fun _ _ _ _ _ => (pg_name (i := 6) sc__law_told.nd rfl (Or.inl rfl))) (fun _ _ _ _ _ => pts_nil) (fun _ _ _ _ _ => (pe_ix (kix_tup (K := K)) (pv 6) pe_int (fun _ _ => rfl)))) (nomark _)) (pw_or1 (pt_cmpR (kop_neD (K := K) hr.units) (pe_callTy (kcall_list (K := K)) (by rfl) B.list' (by decide +kernel) (pa_cons (kpe_fld (K := K) (pv 4)) pa_nil)) (pe_lc (own := [("_law_row", 6)]) (g := gName 6) (by rfl) sc__law_told.nd (kpi_list (K := K) (pv 1)) (blkOk_by (N := ["_law_places", "_law_steps", "_law_told_here", "_law_based", "_law_plan", "e", "_law_row"]) (sc := defScope s__law_told) (by decide +kernel)) (fun _ _ _ _ _ => (pg_name (i := 6) sc__law_told.nd rfl (Or.inl rfl))) (fun _ _ _ _ _ => pts_nil) (fun _ _ _ _ _ => (pe_ix (kix_tup (K := K)) (pv 6) pe_int (fun _ _ => rfl)))) (nomark _))))) (pss_one (ps_asg (pe_tup (pa_cons pe_str pa_nil)) (pg_name (i := 2) sc__law_told.nd rfl (Or.inl rfl)))) pss_nil)))) (by exact (.named (i := 5) rfl rfl ⟨rfl, by decide, .inl X_TooMany.gC⟩ (fun a oe cls d pn hz hf => (pss_cons (ps_asg (pe_tup (pa_cons pe_str (pa_cons (pe_xf X_TooMany.xf (X_TooMany.noN _ (by decide)) hz hf (pv 5)) (pa_cons (pe_xf X_TooMany.xf (X_TooMany.noN _ (by decide)) hz hf (pv 5)) pa_nil)))) (pg_name (i := 2) sc__law_told.nd rfl (Or.inl rfl)))
 (pss_one (ps_asg (pe_callB (call_isD hz hf) (by rfl) B.isinstance (by decide +kernel) (pa_cons (pv 5) (pa_cons (pe_glo g_HeldError) pa_nil))) (pg_name (i := 3) sc__law_told.nd rfl (Or.inl rfl)))))) (.named (i := 5) rfl rfl ⟨rfl, by decide, .inl X_BadWord.gC⟩ (fun a oe cls d pn hz hf => (pss_cons (ps_asg (pe_tup (pa_cons pe_str (pa_cons (pe_xf X_BadWord.xf (X_BadWord.noN _ (by decide)) hz hf (pv 5)) pa_nil))) (pg_name (i := 2) sc__law_told.nd rfl (Or.inl rfl)))
 (pss_one (ps_asg (pe_callB (call_isD hz hf) (by rfl) B.isinstance (by decide +kernel) (pa_cons (pv 5) (pa_cons (pe_glo g_HeldError) pa_nil))) (pg_name (i := 3) sc__law_told.nd rfl (Or.inl rfl)))))) (.named (i := 5) rfl rfl ⟨rfl, by decide, .inl X_BadNumber.gC⟩ (fun a oe cls d pn hz hf => (pss_cons (ps_asg (pe_tup (pa_cons pe_str (pa_cons (pe_xf X_BadNumber.xf (X_BadNumber.noN _ (by decide)) hz hf (pv 5)) pa_nil))) (pg_name (i := 2) sc__law_told.nd rfl (Or.inl rfl)))
 (pss_one (ps_asg (pe_callB (call_isD hz hf) (by rfl) B.isinstance (by decide +kernel) (pa_cons (pv 5) (pa_cons (pe_glo g_HeldError) pa_nil))) (pg_name (i := 3) sc__law_told.nd rfl (Or.inl rfl)))))) (.named (i := 5) rfl rfl ⟨rfl, by decide, .inl X_UnknownName.gC⟩ (fun a oe cls d pn hz hf => (pss_cons (ps_asg (pe_tup (pa_cons pe_str (pa_cons (pe_xf X_UnknownName.xf (X_UnknownName.noN _ (by decide)) hz hf (pv 5)) pa_nil))) (pg_name (i := 2) sc__law_told.nd rfl (Or.inl rfl)))
 (pss_one (ps_asg (pe_callB (call_isD hz hf) (by rfl) B.isinstance (by decide +kernel) (pa_cons (pv 5) (pa_cons (pe_glo g_HeldError) pa_nil))) (pg_name (i := 3) sc__law_told.nd rfl (Or.inl rfl)))))) (.named (i := 5) rfl rfl ⟨rfl, by decide, .inl X_DoubleName.gC⟩ (fun a oe cls d pn hz hf => (pss_cons (ps_asg (pe_tup (pa_cons pe_str (pa_cons (pe_xf X_DoubleName.xf (X_DoubleName.noN _ (by decide)) hz hf (pv 5)) pa_nil))) (pg_name (i := 2) sc__law_told.nd rfl (Or.inl rfl)))
 (pss_one (ps_asg (pe_callB (call_isD hz hf) (by rfl) B.isinstance (by decide +kernel) (pa_cons (pv 5) (pa_cons (pe_glo g_HeldError) pa_nil))) (pg_name (i := 3) sc__law_told.nd rfl (Or.inl rfl)))))) (.named (i := 5) rfl rfl ⟨rfl, by decide, .inl X_EmptyStep.gC⟩ (fun a oe cls d pn hz hf => (pss_cons (ps_asg (pe_tup (pa_cons pe_str (pa_cons (pe_xf X_EmptyStep.xf (X_EmptyStep.noN _ (by decide)) hz hf (pv 5)) pa_nil))) (pg_name (i := 2) sc__law_told.nd rfl (Or.inl rfl)))
 (pss_one (ps_asg (pe_callB (call_isD hz hf) (by rfl) B.isinstance (by decide +kernel) (pa_cons (pv 5) (pa_cons (pe_glo g_HeldError) pa_nil))) (pg_name (i := 3) sc__law_told.nd rfl (Or.inl rfl)))))) .nil))))))))
 (pss_cons (ps_if (pt_not (pt_val (pv 3))) (pss_one (ps_asg (pe_tup (pa_cons pe_str pa_nil)) (pg_name (i := 2) sc__law_told.nd rfl (Or.inl rfl)))) pss_nil)
 (pss_one (ps_ret (pv 2))))))), ?_⟩
    refine ⟨fun σ' H' => ∃ v y4, σ' = [some (.ref a), some (.ref c), some v, some (.bl true), y4, none, none] ∧ Same H H' ∧ Dp K H' v (dueO (planDue prs srs)), ?_, ?_⟩
    · refine ⟨_, rfl, _, rfl, ?_⟩
      refine mk_plan hP hS (fun r hr5 => by have := (wP r hr5).2; omega) (fun r hr5 => ?_) (fun hk x H2 nx s2 hp => ?_) (fun e hk => ?_)
      · obtain ⟨o1, _, _, o2, o3⟩ := wS r hr5
        have := o1.2
        omega
      · obtain ⟨dx, tp, tb, td, tg, ts, kt, kg, p1, p2, p3, p4, p5, p6, p7, p8⟩ := hp.ex
        have shs : ∀ {zs : List Str}, (∀ z ∈ zs, Asc z) → nb (dStrs zs) = true ∧ SeqAt.shaped (dStrs zs) = true := fun {zs} hz => ⟨nb_strs hz, shaped_of (nb_strs hz) (by simp only [PyData.depth]; have := depth_strs zs; omega)⟩
        have n1 : (planOf prs srs).places = prs.map (·.1) := rfl
        have n2 : (planOf prs srs).names = srs.map (·.1) := by
          unfold planOf PlanD.names
          rw [List.map_map]
          rfl
        rw [n1] at p2
        rw [n2] at p6
        have h1 := shs (zs := prs.map (·.1)) fun z hz => by
          obtain ⟨r, hr5, rfl⟩ := List.mem_map.mp hz
          exact (wP r hr5).asc
        have h2 := shs (zs := srs.map (·.1)) fun z hz => by
          obtain ⟨r, hr5, rfl⟩ := List.mem_map.mp hz
          exact (wS r hr5).1.asc
        -- the places
        obtain ⟨ta, hta, pta⟩ := hP.keep s2
        refine ⟨_, rfl, x, _, _, _, _, rfl, p1, T_Plan.cl, T_Plan.nP, rfl, ?_⟩
        refine ⟨tp, _, rfl, .inr (SqT.of p2), fun l1 nl1 => ?_⟩
        have u1 := same_upd (o := .lst ((prs.map (·.1)).map V.str)) nl1
        refine lc_heads (u1 _ _ hta) (PRows.heads (Paired.imp2 (fun _ _ e => u1 _ _ e) pta)) (by rw [List.length_map]; omega) (by rfl) (by show 6 < 7; decide) fun D H3 nD s3 hD => ?_
        refine ⟨_, _, .lst (SqL.of (s3 _ _ upd_same)) (dpall_strs _), .lst (SqL.of hD) (dpall_strs _), h1.2, h1.2, _, rfl, ?_⟩
        rw [eqv_self h1.1]
        have u3 := u1.trans s3
        obtain ⟨tb2, htb, ptb⟩ := (hS.keep s2).keep u3
        refine iteF ⟨_, rfl, x, _, _, _, _, rfl, u3 _ _ p1, T_Plan.cl, T_Plan.nS, rfl, ?_⟩
        refine ⟨ts, _, rfl, .inr (SqT.of (u3 _ _ p6)), fun l2 nl2 => ?_⟩
        have u4 := same_upd (o := .lst ((srs.map (·.1)).map V.str)) nl2
        refine lc_heads (u4 _ _ htb) (SRows.heads (Paired.imp2 (fun _ _ ⟨b, c, x, y, z, u⟩ => ⟨b, c, u4 _ _ x, u4 _ _ y, u4 _ _ z, u⟩) ptb)) (by rw [List.length_map]; omega) (by rfl) (by show 6 < 7; decide) fun D2 H5 nD2 s5 hD2 => ?_
        refine ⟨_, _, .lst (SqL.of (s5 _ _ upd_same)) (dpall_strs _), .lst (SqL.of hD2) (dpall_strs _), h2.2, h2.2, _, rfl, ?_⟩
        rw [eqv_self h2.1]
        refine iteF ⟨_, _, rfl, ((s2.trans u3).trans u4).trans s5, ?_⟩
        rw [hk]
        exact .non
      · cases e with
          | tooMany kind lim =>
            intro H3 d s3 nd hd
            refine ⟨true, X_TooMany.te, fun _ a1 ha1 => ?_, fun e => Bool.noConfusion e⟩
            refine ⟨_, rfl, rfl, rfl, d, _, _, rfl, hd, rfl, _, rfl, rfl, rfl, d, _, _, rfl, hd, rfl, by show 3 ≤ sizeLine; decide, fun p np => ?_⟩
            have hd2 := same_upd (o := .tup [.str "TooMany", .str kind, .int lim]) np _ _ hd
            refine ⟨_, rfl, _, d, _, _, _, true, rfl, X_TooMany.isC, rfl, hd2, rfl, fun u r => r, kk.held .tooMany, ?_⟩
            refine ⟨_, none, rfl, s3.trans (same_upd np), ?_⟩
            rw [hk]
            exact .tup (SqT.of upd_same) (.cons (.str _) (.cons (.str _) (.cons (.int _) .nil)))
          | badWord n =>
            intro H3 d s3 nd hd
            refine ⟨false, kk.other .badWord .tooMany (by decide), fun e => Bool.noConfusion e, fun _ => ?_⟩
            refine ⟨true, X_BadWord.te, fun _ a1 ha1 => ?_, fun e => Bool.noConfusion e⟩
            refine ⟨_, rfl, rfl, rfl, d, _, _, rfl, hd, rfl, by show 2 ≤ sizeLine; decide, fun p np => ?_⟩
            have hd2 := same_upd (o := .tup [.str "BadWord", .str n]) np _ _ hd
            refine ⟨_, rfl, _, d, _, _, _, true, rfl, X_BadWord.isC, rfl, hd2, rfl, fun u r => r, kk.held .badWord, ?_⟩
            refine ⟨_, none, rfl, s3.trans (same_upd np), ?_⟩
            rw [hk]
            exact .tup (SqT.of upd_same) (.cons (.str _) (.cons (.str _) .nil))
          | double n =>
            intro H3 d s3 nd hd
            refine ⟨false, kk.other .double .tooMany (by decide), fun e => Bool.noConfusion e, fun _ => ?_⟩
            refine ⟨false, kk.other .double .badWord (by decide), fun e => Bool.noConfusion e, fun _ => ?_⟩
            refine ⟨false, kk.other .double .badNumber (by decide), fun e => Bool.noConfusion e, fun _ => ?_⟩
            refine ⟨false, kk.other .double .unknown (by decide), fun e => Bool.noConfusion e, fun _ => ?_⟩
            refine ⟨true, X_DoubleName.te, fun _ a1 ha1 => ?_, fun e => Bool.noConfusion e⟩
            refine ⟨_, rfl, rfl, rfl, d, _, _, rfl, hd, rfl, by show 2 ≤ sizeLine; decide, fun p np => ?_⟩
            have hd2 := same_upd (o := .tup [.str "DoubleName", .str n]) np _ _ hd
            refine ⟨_, rfl, _, d, _, _, _, true, rfl, X_DoubleName.isC, rfl, hd2, rfl, fun u r => r, kk.held .double, ?_⟩
            refine ⟨_, none, rfl, s3.trans (same_upd np), ?_⟩
            rw [hk]
            exact .tup (SqT.of upd_same) (.cons (.str _) (.cons (.str _) .nil))
          | badNumber n =>
            intro H3 d s3 nd hd
            refine ⟨false, kk.other .badNumber .tooMany (by decide), fun e => Bool.noConfusion e, fun _ => ?_⟩
            refine ⟨false, kk.other .badNumber .badWord (by decide), fun e => Bool.noConfusion e, fun _ => ?_⟩
            refine ⟨true, X_BadNumber.te, fun _ a1 ha1 => ?_, fun e => Bool.noConfusion e⟩
            refine ⟨_, rfl, rfl, rfl, d, _, _, rfl, hd, rfl, by show 2 ≤ sizeLine; decide, fun p np => ?_⟩
            have hd2 := same_upd (o := .tup [.str "BadNumber", .int n]) np _ _ hd
            refine ⟨_, rfl, _, d, _, _, _, true, rfl, X_BadNumber.isC, rfl, hd2, rfl, fun u r => r, kk.held .badNumber, ?_⟩
            refine ⟨_, none, rfl, s3.trans (same_upd np), ?_⟩
            rw [hk]
            exact .tup (SqT.of upd_same) (.cons (.str _) (.cons (.int _) .nil))
          | empty n =>
            intro H3 d s3 nd hd
            refine ⟨false, kk.other .empty .tooMany (by decide), fun e => Bool.noConfusion e, fun _ => ?_⟩
            refine ⟨false, kk.other .empty .badWord (by decide), fun e => Bool.noConfusion e, fun _ => ?_⟩
            refine ⟨false, kk.other .empty .badNumber (by decide), fun e => Bool.noConfusion e, fun _ => ?_⟩
            refine ⟨false, kk.other .empty .unknown (by decide), fun e => Bool.noConfusion e, fun _ => ?_⟩
            refine ⟨false, kk.other .empty .double (by decide), fun e => Bool.noConfusion e, fun _ => ?_⟩
            refine ⟨true, X_EmptyStep.te, fun _ a1 ha1 => ?_, fun e => Bool.noConfusion e⟩
            refine ⟨_, rfl, rfl, rfl, d, _, _, rfl, hd, rfl, by show 2 ≤ sizeLine; decide, fun p np => ?_⟩
            have hd2 := same_upd (o := .tup [.str "EmptyStep", .str n]) np _ _ hd
            refine ⟨_, rfl, _, d, _, _, _, true, rfl, X_EmptyStep.isC, rfl, hd2, rfl, fun u r => r, kk.held .empty, ?_⟩
            refine ⟨_, none, rfl, s3.trans (same_upd np), ?_⟩
            rw [hk]
            exact .tup (SqT.of upd_same) (.cons (.str _) (.cons (.str _) .nil))
          | unknown n =>
            intro H3 d s3 nd hd
            refine ⟨false, kk.other .unknown .tooMany (by decide), fun e => Bool.noConfusion e, fun _ => ?_⟩
            refine ⟨false, kk.other .unknown .badWord (by decide), fun e => Bool.noConfusion e, fun _ => ?_⟩
            refine ⟨false, kk.other .unknown .badNumber (by decide), fun e => Bool.noConfusion e, fun _ => ?_⟩
            refine ⟨true, X_UnknownName.te, fun _ a1 ha1 => ?_, fun e => Bool.noConfusion e⟩
            refine ⟨_, rfl, rfl, rfl, d, _, _, rfl, hd, rfl, by show 2 ≤ sizeLine; decide, fun p np => ?_⟩
            have hd2 := same_upd (o := .tup [.str "UnknownName", .str n]) np _ _ hd
            refine ⟨_, rfl, _, d, _, _, _, true, rfl, X_UnknownName.isC, rfl, hd2, rfl, fun u r => r, kk.held .unknown, ?_⟩
            refine ⟨_, none, rfl, s3.trans (same_upd np), ?_⟩
            rw [hk]
            exact .tup (SqT.of upd_same) (.cons (.str _) (.cons (.str _) .nil))
    · rintro σ' H' ⟨v, y4, rfl, s', dv⟩
      refine ⟨_, rfl, _, rfl, ?_⟩
      exact iteF ⟨_, rfl, q _ _ s' dv⟩
abbrev s_law : Stmt := topS 36
theorem sc_law : FnScope ["_law_script", "_law_box_here", "_law_turn", "_law_places", "_law_steps"] ["_law_script"] (defScope s_law) := ⟨rfl, rfl, rfl, by decide +kernel, rfl, by decide +kernel, by decide +kernel⟩
def spLaw (K : PySem.W.Frag) : Sp := fun vs H Q _ => ∃ (a : Addr) (ns : List Int), vs = [.ref a] ∧ SqL K H a (ns.map V.int) ∧ ns.length ≤ 63 ∧ ∀ H', Q (.bl true) H'
theorem ok_law {k : Nat} (B : Bl mg) (D__law_box : Def P w K mg base CX0 k "_law_box" ["_law_script"] (spBox K)) (D__law_rows : Def P w K mg base CX0 k "_law_rows" ["_law_box_here"] spRows) (D__law_told : Def P w K mg base CX0 k "_law_told" ["_law_places", "_law_steps"] (spTold K)) (D__law_due : Def P w K mg base CX0 k "_law_due" ["_law_places", "_law_steps"] (spDueP K))
    {f : Addr} {fd : FuncData} (F : Fun K "law" "law" s_law f fd) : FnOk P w K mg base CX0 (k + 1) f fd ["_law_script"] (spLaw K) := by
  refine F.ok sc_law (fun vs H Q E h => ?_) (fun cdv A outer s H vs Q E hr h => ?_)
  · obtain ⟨a, ns, rfl, _⟩ := h
    rfl
  · obtain ⟨a, ns, rfl, hS, hlen, q⟩ := h
    refine ⟨_, (pss_cons (ps_asg (pe_def D__law_box hr pass0 (pa_cons (pv 0) pa_nil)) (pg_name (i := 1) sc_law.nd rfl (Or.inl rfl)))
 (pss_cons (ps_for PassesOwn.never rfl (pi_range1 (by rfl) B.range (pa_cons pe_int pa_nil)) (pg_name (i := 2) sc_law.nd rfl (Or.inl rfl)) (pss_cons (ps_asg (pe_def D__law_rows hr pass0 (pa_cons (pv 1) pa_nil)) (pg_tup rfl (pgs_cons (pg_name (i := 3) sc_law.nd rfl (Or.inl rfl)) (pgs_cons (pg_name (i := 4) sc_law.nd rfl (Or.inl rfl)) pgs_nil))))
 (pss_one (ps_if (pt_cmpR (kop_neD (K := K) hr.units) (pe_def D__law_told hr pass0 (pa_cons (pv 3) (pa_cons (pv 4) pa_nil))) (pe_def D__law_due hr pass0 (pa_cons (pv 3) (pa_cons (pv 4) pa_nil))) (nomark _)) (pss_one (ps_ret pe_bl)) pss_nil))))
 (pss_one (ps_ret pe_bl)))), ?_⟩
    refine ⟨_, rfl, a, ns, rfl, hS, hlen, fun b l H1 nb1 s1 hb => ?_⟩
    refine ⟨2, rfl, by decide, by decide, for_range (lo := 0) (n := 2) (fun i σ H' => ∃ y z u, σ = [some (.ref a), some (.ref b), y, z, u] ∧ Box H' b l) ⟨none, none, none, rfl, hb⟩ ?_ ?_⟩
    · rintro i σ H' hi ⟨y, z, u, rfl, hb'⟩
      refine ⟨_, rfl, b, l, rfl, hb', fun p ap as' prs srs H2 s2 hp hP hR wP wS lP lS => ?_⟩
      refine ⟨p, _, rfl, SqT.of hp, rfl, ?_⟩
      refine ⟨_, _, rfl, _, _, rfl, rfl, ?_⟩
      refine ⟨_, rfl, _, rfl, ap, as', prs, srs, rfl, hP, hR, lP, lS, wP, wS, fun v H3 s3 dv => ?_⟩
      refine ⟨_, rfl, _, rfl, ap, as', prs, srs, rfl, hP.keep s3, hR.keep s3, lP, lS, wP, wS, fun v2 H4 s4 dv2 => ?_⟩
      have hn := nb_dueO wP wS
      have shp := shaped_of hn (depth_dueO _)
      refine ⟨_, _, Dp.keep s4 _ _ dv, dv2, shp, shp, _, rfl, ?_⟩
      rw [eqv_self hn]
      exact iteF ⟨_, _, _, rfl, ((s2.same s3).same s4).b1⟩
    · rintro σ H' ⟨y, z, u, rfl, hb'⟩
      exact q H'
end

/-! ## the end -/
theorem all_mk {P : Program} {w : World} {K : PySem.W.Frag} {h : Heap} {mg : Str → Option Value} {fa : Addr} (X : K.In h) (G : h.Ns mainGlobals mg) (hfa : mg "law" = some (.ref fa)) (top : (P.main.scope.names.lookup ("super" : Str)).isSome = false)
    {t_LETTERS : Tok}
    {t_DIGITS : Tok}
    {t_MOST_SIGNS : Tok}
    {t_MOST_PLACES : Tok}
    {t_MOST_STEPS : Tok}
    {t_MOST_BEGIN : Tok}
    {f_is_word : Addr} {od_is_word an_is_word : Option Addr} {sl_is_word : Array (Option Value)} {oc_is_word kV_is_word dc_is_word pm_is_word cd_is_word ct_is_word : Value}
    {f_check_word : Addr} {od_check_word an_check_word : Option Addr} {sl_check_word : Array (Option Value)} {oc_check_word kV_check_word dc_check_word pm_check_word cd_check_word ct_check_word : Value}
    {f_check_number : Addr} {od_check_number an_check_number : Option Addr} {sl_check_number : Array (Option Value)} {oc_check_number kV_check_number dc_check_number pm_check_number cd_check_number ct_check_number : Value}
    {f_check_names : Addr} {od_check_names an_check_names : Option Addr} {sl_check_names : Array (Option Value)} {oc_check_names kV_check_names dc_check_names pm_check_names cd_check_names ct_check_names : Value}
    {f_in_order : Addr} {od_in_order an_in_order : Option Addr} {sl_in_order : Array (Option Value)} {oc_in_order kV_in_order dc_in_order pm_in_order cd_in_order ct_in_order : Value}
    {f__law_box : Addr} {od__law_box an__law_box : Option Addr} {sl__law_box : Array (Option Value)} {oc__law_box kV__law_box dc__law_box pm__law_box cd__law_box ct__law_box : Value}
    {f__law_next : Addr} {od__law_next an__law_next : Option Addr} {sl__law_next : Array (Option Value)} {oc__law_next kV__law_next dc__law_next pm__law_next cd__law_next ct__law_next : Value}
    {f__law_word : Addr} {od__law_word an__law_word : Option Addr} {sl__law_word : Array (Option Value)} {oc__law_word kV__law_word dc__law_word pm__law_word cd__law_word ct__law_word : Value}
    {f__law_words : Addr} {od__law_words an__law_words : Option Addr} {sl__law_words : Array (Option Value)} {oc__law_words kV__law_words dc__law_words pm__law_words cd__law_words ct__law_words : Value}
    {f__law_name : Addr} {od__law_name an__law_name : Option Addr} {sl__law_name : Array (Option Value)} {oc__law_name kV__law_name dc__law_name pm__law_name cd__law_name ct__law_name : Value}
    {f__law_listed : Addr} {od__law_listed an__law_listed : Option Addr} {sl__law_listed : Array (Option Value)} {oc__law_listed kV__law_listed dc__law_listed pm__law_listed cd__law_listed ct__law_listed : Value}
    {f__law_rows : Addr} {od__law_rows an__law_rows : Option Addr} {sl__law_rows : Array (Option Value)} {oc__law_rows kV__law_rows dc__law_rows pm__law_rows cd__law_rows ct__law_rows : Value}
    {f__law_bad : Addr} {od__law_bad an__law_bad : Option Addr} {sl__law_bad : Array (Option Value)} {oc__law_bad kV__law_bad dc__law_bad pm__law_bad cd__law_bad ct__law_bad : Value}
    {f__law_list_due : Addr} {od__law_list_due an__law_list_due : Option Addr} {sl__law_list_due : Array (Option Value)} {oc__law_list_due kV__law_list_due dc__law_list_due pm__law_list_due cd__law_list_due ct__law_list_due : Value}
    {f__law_step_due : Addr} {od__law_step_due an__law_step_due : Option Addr} {sl__law_step_due : Array (Option Value)} {oc__law_step_due kV__law_step_due dc__law_step_due pm__law_step_due cd__law_step_due ct__law_step_due : Value}
    {f__law_due : Addr} {od__law_due an__law_due : Option Addr} {sl__law_due : Array (Option Value)} {oc__law_due kV__law_due dc__law_due pm__law_due cd__law_due ct__law_due : Value}
    {f__law_told : Addr} {od__law_told an__law_told : Option Addr} {sl__law_told : Array (Option Value)} {oc__law_told kV__law_told dc__law_told pm__law_told cd__law_told ct__law_told : Value}
    {f_law : Addr} {od_law an_law : Option Addr} {sl_law : Array (Option Value)} {oc_law kV_law dc_law pm_law cd_law ct_law : Value}
    {C_HeldError : Addr}
    {C_BadWord fI_BadWord N_BadWord cda_BadWord cc_BadWord : Addr} {nm_BadWord q_BadWord file_BadWord : Str} {bs_BadWord bm_BadWord sub_BadWord : List Value} {sn_BadWord : List Str} {ab_BadWord : Bool} {col_BadWord : Option Bool} {dd_BadWord od_BadWord an_BadWord cdd_BadWord cld_BadWord : Option Addr} {m0_BadWord m1_BadWord m2_BadWord m3_BadWord m5_BadWord : Option Value} {oc_BadWord kV_BadWord dc_BadWord pm_BadWord ct_BadWord ccl_BadWord cl_BadWord : Value} {sl_BadWord ccs_BadWord csl_BadWord : Array (Option Value)} {vs_BadWord : Array Value} {tf_BadWord : Tok}
    {C_BadNumber fI_BadNumber N_BadNumber cda_BadNumber cc_BadNumber : Addr} {nm_BadNumber q_BadNumber file_BadNumber : Str} {bs_BadNumber bm_BadNumber sub_BadNumber : List Value} {sn_BadNumber : List Str} {ab_BadNumber : Bool} {col_BadNumber : Option Bool} {dd_BadNumber od_BadNumber an_BadNumber cdd_BadNumber cld_BadNumber : Option Addr} {m0_BadNumber m1_BadNumber m2_BadNumber m3_BadNumber m5_BadNumber : Option Value} {oc_BadNumber kV_BadNumber dc_BadNumber pm_BadNumber ct_BadNumber ccl_BadNumber cl_BadNumber : Value} {sl_BadNumber ccs_BadNumber csl_BadNumber : Array (Option Value)} {vs_BadNumber : Array Value} {tf_BadNumber : Tok}
    {C_UnknownName fI_UnknownName N_UnknownName cda_UnknownName cc_UnknownName : Addr} {nm_UnknownName q_UnknownName file_UnknownName : Str} {bs_UnknownName bm_UnknownName sub_UnknownName : List Value} {sn_UnknownName : List Str} {ab_UnknownName : Bool} {col_UnknownName : Option Bool} {dd_UnknownName od_UnknownName an_UnknownName cdd_UnknownName cld_UnknownName : Option Addr} {m0_UnknownName m1_UnknownName m2_UnknownName m3_UnknownName m5_UnknownName : Option Value} {oc_UnknownName kV_UnknownName dc_UnknownName pm_UnknownName ct_UnknownName ccl_UnknownName cl_UnknownName : Value} {sl_UnknownName ccs_UnknownName csl_UnknownName : Array (Option Value)} {vs_UnknownName : Array Value} {tf_UnknownName : Tok}
    {C_DoubleName fI_DoubleName N_DoubleName cda_DoubleName cc_DoubleName : Addr} {nm_DoubleName q_DoubleName file_DoubleName : Str} {bs_DoubleName bm_DoubleName sub_DoubleName : List Value} {sn_DoubleName : List Str} {ab_DoubleName : Bool} {col_DoubleName : Option Bool} {dd_DoubleName od_DoubleName an_DoubleName cdd_DoubleName cld_DoubleName : Option Addr} {m0_DoubleName m1_DoubleName m2_DoubleName m3_DoubleName m5_DoubleName : Option Value} {oc_DoubleName kV_DoubleName dc_DoubleName pm_DoubleName ct_DoubleName ccl_DoubleName cl_DoubleName : Value} {sl_DoubleName ccs_DoubleName csl_DoubleName : Array (Option Value)} {vs_DoubleName : Array Value} {tf_DoubleName : Tok}
    {C_EmptyStep fI_EmptyStep N_EmptyStep cda_EmptyStep cc_EmptyStep : Addr} {nm_EmptyStep q_EmptyStep file_EmptyStep : Str} {bs_EmptyStep bm_EmptyStep sub_EmptyStep : List Value} {sn_EmptyStep : List Str} {ab_EmptyStep : Bool} {col_EmptyStep : Option Bool} {dd_EmptyStep od_EmptyStep an_EmptyStep cdd_EmptyStep cld_EmptyStep : Option Addr} {m0_EmptyStep m1_EmptyStep m2_EmptyStep m3_EmptyStep m5_EmptyStep : Option Value} {oc_EmptyStep kV_EmptyStep dc_EmptyStep pm_EmptyStep ct_EmptyStep ccl_EmptyStep cl_EmptyStep : Value} {sl_EmptyStep ccs_EmptyStep csl_EmptyStep : Array (Option Value)} {vs_EmptyStep : Array Value} {tf_EmptyStep : Tok}
    {C_TooMany fI_TooMany N_TooMany cda_TooMany cc_TooMany : Addr} {nm_TooMany q_TooMany file_TooMany : Str} {bs_TooMany bm_TooMany sub_TooMany : List Value} {sn_TooMany : List Str} {ab_TooMany : Bool} {col_TooMany : Option Bool} {dd_TooMany od_TooMany an_TooMany cdd_TooMany cld_TooMany : Option Addr} {m0_TooMany m1_TooMany m2_TooMany m3_TooMany m5_TooMany : Option Value} {oc_TooMany kV_TooMany dc_TooMany pm_TooMany ct_TooMany ccl_TooMany cl_TooMany : Value} {sl_TooMany ccs_TooMany csl_TooMany : Array (Option Value)} {vs_TooMany : Array Value} {tf_TooMany : Tok}
    {C_Plan : Addr}
    {f_Plan___init__ : Addr} {od_Plan___init__ an_Plan___init__ : Option Addr} {sl_Plan___init__ : Array (Option Value)} {oc_Plan___init__ kV_Plan___init__ dc_Plan___init__ pm_Plan___init__ cd_Plan___init__ ct_Plan___init__ : Value}
    {f_Plan_put_step : Addr} {od_Plan_put_step an_Plan_put_step : Option Addr} {sl_Plan_put_step : Array (Option Value)} {oc_Plan_put_step kV_Plan_put_step dc_Plan_put_step pm_Plan_put_step cd_Plan_put_step ct_Plan_put_step : Value}
    (z_len : PySem.W.nsIn K mainGlobals "len" = some none)
    (z_range : PySem.W.nsIn K mainGlobals "range" = some none)
    (z_abs : PySem.W.nsIn K mainGlobals "abs" = some none)
    (z_sum : PySem.W.nsIn K mainGlobals "sum" = some none)
    (z_sorted : PySem.W.nsIn K mainGlobals "sorted" = some none)
    (z_isinstance : PySem.W.nsIn K mainGlobals "isinstance" = some none)
    (z_zip : PySem.W.nsIn K mainGlobals "zip" = some none)
    (z_enumerate : PySem.W.nsIn K mainGlobals "enumerate" = some none)
    (z_reversed : PySem.W.nsIn K mainGlobals "reversed" = some none)
    (z_int : PySem.W.nsIn K mainGlobals "int" = some none)
    (z_str : PySem.W.nsIn K mainGlobals "str" = some none)
    (z_list : PySem.W.nsIn K mainGlobals "list" = some none)
    (z_tuple : PySem.W.nsIn K mainGlobals "tuple" = some none)
    (z_bool : PySem.W.nsIn K mainGlobals "bool" = some none)
    (z_all : PySem.W.nsIn K mainGlobals "all" = some none)
    (z_any : PySem.W.nsIn K mainGlobals "any" = some none)
    (z_ValueError : PySem.W.nsIn K mainGlobals "ValueError" = some none)
    (z_super : PySem.W.nsIn K mainGlobals "super" = some none)
    (a_LETTERS : PySem.W.nsIn K mainGlobals "LETTERS" = some (some (.str LETTERS t_LETTERS)))
    (a_DIGITS : PySem.W.nsIn K mainGlobals "DIGITS" = some (some (.str DIGITS t_DIGITS)))
    (a_MOST_SIGNS : PySem.W.nsIn K mainGlobals "MOST_SIGNS" = some (some (.int 12 t_MOST_SIGNS)))
    (a_MOST_PLACES : PySem.W.nsIn K mainGlobals "MOST_PLACES" = some (some (.int 12 t_MOST_PLACES)))
    (a_MOST_STEPS : PySem.W.nsIn K mainGlobals "MOST_STEPS" = some (some (.int 16 t_MOST_STEPS)))
    (a_MOST_BEGIN : PySem.W.nsIn K mainGlobals "MOST_BEGIN" = some (some (.int 99 t_MOST_BEGIN)))
    (a_is_word : PySem.W.nsIn K mainGlobals "is_word" = some (some (.ref f_is_word)))
    (l_is_word : K.lookup f_is_word = some ⟨oc_is_word, od_is_word, .func (PySem.W.fnOf "is_word" "is_word" (defArgs s_is_word) (defBody s_is_word) (defScope s_is_word) .none kV_is_word dc_is_word pm_is_word an_is_word cd_is_word ct_is_word), sl_is_word⟩)
    (c_is_word : PySem.W.codeIn K cd_is_word "is_word" = true)
    (k_is_word : PySem.W.keepIn K (.ref f_is_word) = true)
    (a_check_word : PySem.W.nsIn K mainGlobals "check_word" = some (some (.ref f_check_word)))
    (l_check_word : K.lookup f_check_word = some ⟨oc_check_word, od_check_word, .func (PySem.W.fnOf "check_word" "check_word" (defArgs s_check_word) (defBody s_check_word) (defScope s_check_word) .none kV_check_word dc_check_word pm_check_word an_check_word cd_check_word ct_check_word), sl_check_word⟩)
    (c_check_word : PySem.W.codeIn K cd_check_word "check_word" = true)
    (k_check_word : PySem.W.keepIn K (.ref f_check_word) = true)
    (a_check_number : PySem.W.nsIn K mainGlobals "check_number" = some (some (.ref f_check_number)))
    (l_check_number : K.lookup f_check_number = some ⟨oc_check_number, od_check_number, .func (PySem.W.fnOf "check_number" "check_number" (defArgs s_check_number) (defBody s_check_number) (defScope s_check_number) .none kV_check_number dc_check_number pm_check_number an_check_number cd_check_number ct_check_number), sl_check_number⟩)
    (c_check_number : PySem.W.codeIn K cd_check_number "check_number" = true)
    (k_check_number : PySem.W.keepIn K (.ref f_check_number) = true)
    (a_check_names : PySem.W.nsIn K mainGlobals "check_names" = some (some (.ref f_check_names)))
    (l_check_names : K.lookup f_check_names = some ⟨oc_check_names, od_check_names, .func (PySem.W.fnOf "check_names" "check_names" (defArgs s_check_names) (defBody s_check_names) (defScope s_check_names) .none kV_check_names dc_check_names pm_check_names an_check_names cd_check_names ct_check_names), sl_check_names⟩)
    (c_check_names : PySem.W.codeIn K cd_check_names "check_names" = true)
    (k_check_names : PySem.W.keepIn K (.ref f_check_names) = true)
    (a_in_order : PySem.W.nsIn K mainGlobals "in_order" = some (some (.ref f_in_order)))
    (l_in_order : K.lookup f_in_order = some ⟨oc_in_order, od_in_order, .func (PySem.W.fnOf "in_order" "in_order" (defArgs s_in_order) (defBody s_in_order) (defScope s_in_order) .none kV_in_order dc_in_order pm_in_order an_in_order cd_in_order ct_in_order), sl_in_order⟩)
    (c_in_order : PySem.W.codeIn K cd_in_order "in_order" = true)
    (k_in_order : PySem.W.keepIn K (.ref f_in_order) = true)
    (a__law_box : PySem.W.nsIn K mainGlobals "_law_box" = some (some (.ref f__law_box)))
    (l__law_box : K.lookup f__law_box = some ⟨oc__law_box, od__law_box, .func (PySem.W.fnOf "_law_box" "_law_box" (defArgs s__law_box) (defBody s__law_box) (defScope s__law_box) .none kV__law_box dc__law_box pm__law_box an__law_box cd__law_box ct__law_box), sl__law_box⟩)
    (c__law_box : PySem.W.codeIn K cd__law_box "_law_box" = true)
    (k__law_box : PySem.W.keepIn K (.ref f__law_box) = true)
    (a__law_next : PySem.W.nsIn K mainGlobals "_law_next" = some (some (.ref f__law_next)))
    (l__law_next : K.lookup f__law_next = some ⟨oc__law_next, od__law_next, .func (PySem.W.fnOf "_law_next" "_law_next" (defArgs s__law_next) (defBody s__law_next) (defScope s__law_next) .none kV__law_next dc__law_next pm__law_next an__law_next cd__law_next ct__law_next), sl__law_next⟩)
    (c__law_next : PySem.W.codeIn K cd__law_next "_law_next" = true)
    (k__law_next : PySem.W.keepIn K (.ref f__law_next) = true)
    (a__law_word : PySem.W.nsIn K mainGlobals "_law_word" = some (some (.ref f__law_word)))
    (l__law_word : K.lookup f__law_word = some ⟨oc__law_word, od__law_word, .func (PySem.W.fnOf "_law_word" "_law_word" (defArgs s__law_word) (defBody s__law_word) (defScope s__law_word) .none kV__law_word dc__law_word pm__law_word an__law_word cd__law_word ct__law_word), sl__law_word⟩)
    (c__law_word : PySem.W.codeIn K cd__law_word "_law_word" = true)
    (k__law_word : PySem.W.keepIn K (.ref f__law_word) = true)
    (a__law_words : PySem.W.nsIn K mainGlobals "_law_words" = some (some (.ref f__law_words)))
    (l__law_words : K.lookup f__law_words = some ⟨oc__law_words, od__law_words, .func (PySem.W.fnOf "_law_words" "_law_words" (defArgs s__law_words) (defBody s__law_words) (defScope s__law_words) .none kV__law_words dc__law_words pm__law_words an__law_words cd__law_words ct__law_words), sl__law_words⟩)
    (c__law_words : PySem.W.codeIn K cd__law_words "_law_words" = true)
    (k__law_words : PySem.W.keepIn K (.ref f__law_words) = true)
    (a__law_name : PySem.W.nsIn K mainGlobals "_law_name" = some (some (.ref f__law_name)))
    (l__law_name : K.lookup f__law_name = some ⟨oc__law_name, od__law_name, .func (PySem.W.fnOf "_law_name" "_law_name" (defArgs s__law_name) (defBody s__law_name) (defScope s__law_name) .none kV__law_name dc__law_name pm__law_name an__law_name cd__law_name ct__law_name), sl__law_name⟩)
    (c__law_name : PySem.W.codeIn K cd__law_name "_law_name" = true)
    (k__law_name : PySem.W.keepIn K (.ref f__law_name) = true)
    (a__law_listed : PySem.W.nsIn K mainGlobals "_law_listed" = some (some (.ref f__law_listed)))
    (l__law_listed : K.lookup f__law_listed = some ⟨oc__law_listed, od__law_listed, .func (PySem.W.fnOf "_law_listed" "_law_listed" (defArgs s__law_listed) (defBody s__law_listed) (defScope s__law_listed) .none kV__law_listed dc__law_listed pm__law_listed an__law_listed cd__law_listed ct__law_listed), sl__law_listed⟩)
    (c__law_listed : PySem.W.codeIn K cd__law_listed "_law_listed" = true)
    (k__law_listed : PySem.W.keepIn K (.ref f__law_listed) = true)
    (a__law_rows : PySem.W.nsIn K mainGlobals "_law_rows" = some (some (.ref f__law_rows)))
    (l__law_rows : K.lookup f__law_rows = some ⟨oc__law_rows, od__law_rows, .func (PySem.W.fnOf "_law_rows" "_law_rows" (defArgs s__law_rows) (defBody s__law_rows) (defScope s__law_rows) .none kV__law_rows dc__law_rows pm__law_rows an__law_rows cd__law_rows ct__law_rows), sl__law_rows⟩)
    (c__law_rows : PySem.W.codeIn K cd__law_rows "_law_rows" = true)
    (k__law_rows : PySem.W.keepIn K (.ref f__law_rows) = true)
    (a__law_bad : PySem.W.nsIn K mainGlobals "_law_bad" = some (some (.ref f__law_bad)))
    (l__law_bad : K.lookup f__law_bad = some ⟨oc__law_bad, od__law_bad, .func (PySem.W.fnOf "_law_bad" "_law_bad" (defArgs s__law_bad) (defBody s__law_bad) (defScope s__law_bad) .none kV__law_bad dc__law_bad pm__law_bad an__law_bad cd__law_bad ct__law_bad), sl__law_bad⟩)
    (c__law_bad : PySem.W.codeIn K cd__law_bad "_law_bad" = true)
    (k__law_bad : PySem.W.keepIn K (.ref f__law_bad) = true)
    (a__law_list_due : PySem.W.nsIn K mainGlobals "_law_list_due" = some (some (.ref f__law_list_due)))
    (l__law_list_due : K.lookup f__law_list_due = some ⟨oc__law_list_due, od__law_list_due, .func (PySem.W.fnOf "_law_list_due" "_law_list_due" (defArgs s__law_list_due) (defBody s__law_list_due) (defScope s__law_list_due) .none kV__law_list_due dc__law_list_due pm__law_list_due an__law_list_due cd__law_list_due ct__law_list_due), sl__law_list_due⟩)
    (c__law_list_due : PySem.W.codeIn K cd__law_list_due "_law_list_due" = true)
    (k__law_list_due : PySem.W.keepIn K (.ref f__law_list_due) = true)
    (a__law_step_due : PySem.W.nsIn K mainGlobals "_law_step_due" = some (some (.ref f__law_step_due)))
    (l__law_step_due : K.lookup f__law_step_due = some ⟨oc__law_step_due, od__law_step_due, .func (PySem.W.fnOf "_law_step_due" "_law_step_due" (defArgs s__law_step_due) (defBody s__law_step_due) (defScope s__law_step_due) .none kV__law_step_due dc__law_step_due pm__law_step_due an__law_step_due cd__law_step_due ct__law_step_due), sl__law_step_due⟩)
    (c__law_step_due : PySem.W.codeIn K cd__law_step_due "_law_step_due" = true)
    (k__law_step_due : PySem.W.keepIn K (.ref f__law_step_due) = true)
    (a__law_due : PySem.W.nsIn K mainGlobals "_law_due" = some (some (.ref f__law_due)))
    (l__law_due : K.lookup f__law_due = some ⟨oc__law_due, od__law_due, .func (PySem.W.fnOf "_law_due" "_law_due" (defArgs s__law_due) (defBody s__law_due) (defScope s__law_due) .none kV__law_due dc__law_due pm__law_due an__law_due cd__law_due ct__law_due), sl__law_due⟩)
    (c__law_due : PySem.W.codeIn K cd__law_due "_law_due" = true)
    (k__law_due : PySem.W.keepIn K (.ref f__law_due) = true)
    (a__law_told : PySem.W.nsIn K mainGlobals "_law_told" = some (some (.ref f__law_told)))
    (l__law_told : K.lookup f__law_told = some ⟨oc__law_told, od__law_told, .func (PySem.W.fnOf "_law_told" "_law_told" (defArgs s__law_told) (defBody s__law_told) (defScope s__law_told) .none kV__law_told dc__law_told pm__law_told an__law_told cd__law_told ct__law_told), sl__law_told⟩)
    (c__law_told : PySem.W.codeIn K cd__law_told "_law_told" = true)
    (k__law_told : PySem.W.keepIn K (.ref f__law_told) = true)
    (a_law : PySem.W.nsIn K mainGlobals "law" = some (some (.ref f_law)))
    (l_law : K.lookup f_law = some ⟨oc_law, od_law, .func (PySem.W.fnOf "law" "law" (defArgs s_law) (defBody s_law) (defScope s_law) .none kV_law dc_law pm_law an_law cd_law ct_law), sl_law⟩)
    (c_law : PySem.W.codeIn K cd_law "law" = true)
    (k_law : PySem.W.keepIn K (.ref f_law) = true)
    (aC_HeldError : PySem.W.nsIn K mainGlobals "HeldError" = some (some (.ref C_HeldError)))
    (e_opq : PySem.W.nsIn K cStatics "thirdparty.any" = some none)
    (e_cg : PySem.W.specialIn K (.builtin "object.__class__") "__get__" = some (some (.builtin "getset_descriptor.__get__")))
    (e_ct : PySem.W.takesIn K (.builtin "object.__class__") = some true)
    (aC_BadWord : PySem.W.nsIn K mainGlobals "BadWord" = some (some (.ref C_BadWord)))
    (xL_BadWord : K.lookup C_BadWord = some (excClassObj nm_BadWord q_BadWord C_BadWord N_BadWord bs_BadWord bm_BadWord true sn_BadWord sub_BadWord ab_BadWord col_BadWord dd_BadWord m0_BadWord m1_BadWord m2_BadWord m3_BadWord m5_BadWord "ValueError.__new__"))
    (bm_BadWord : PySem.HandSPX.refsVE bm_BadWord = true)
    (sa_BadWord : PySem.W.findIn K (.ref C_BadWord) "__setattr__" = some (some (.builtin "object.__setattr__")))
    (ga_BadWord : PySem.W.findIn K (.ref C_BadWord) "__getattribute__" = some (some (.builtin "BaseException.__getattribute__")))
    (gg_BadWord : PySem.W.findIn K (.ref C_BadWord) "__getattr__" = some none)
    (no_word_BadWord : PySem.W.findIn K (.ref C_BadWord) "word" = some none)
    (iC_BadWord : PySem.W.findIn K (.ref C_BadWord) "__init__" = some (some (.ref fI_BadWord)))
    (tI_BadWord : PySem.W.typeIn K (.ref fI_BadWord) = some (.type "function"))
    (kC_BadWord : PySem.W.keepIn K (.ref C_BadWord) = true)
    (ex_BadWord : PySem.W.subIn K (.ref C_BadWord) (.type "BaseException") = some true)
    (ve_BadWord : PySem.W.subIn K (.ref C_BadWord) (.type "ValueError") = some true)
    (ty_BadWord : PySem.W.typeIn K (.ref C_BadWord) = some (.type "type"))
    (hd_BadWord : PySem.W.hasDictIn K C_BadWord = true)
    (sup_BadWord : PySem.W.ks_superIn K C_BadWord C_BadWord "__init__" = some (some (.builtin "ValueError.__init__")))
    (mro_BadWord : PySem.W.mroIn K C_BadWord (.ref C_BadWord) = some true)
    (su_BadWord : PySem.W.subIn K (.ref C_BadWord) (.ref C_BadWord) = some true)
    (ca_BadWord : PySem.W.findIn K (.ref C_BadWord) "__class__" = some (some (.builtin "object.__class__")))
    (mo_BadWord : PySem.W.mroIn K C_BadWord (.type "object") = some true)
    (l_BadWord : K.lookup fI_BadWord = some ⟨oc_BadWord, od_BadWord, .func (PySem.W.ksFn "__init__" "BadWord.__init__" (defArgs (inClass (topS 3) 0)) (defBody (inClass (topS 3) 0)) (defScope (inClass (topS 3) 0)) .none kV_BadWord dc_BadWord pm_BadWord an_BadWord (.ref cda_BadWord) ct_BadWord cc_BadWord), sl_BadWord⟩)
    (c_BadWord : PySem.W.codeIn K (.ref cda_BadWord) "BadWord.__init__" = true)
    (lc_BadWord : K.lookup cda_BadWord = some ⟨ccl_BadWord, cdd_BadWord, .fields vs_BadWord, ccs_BadWord⟩)
    (v2_BadWord : vs_BadWord[2]? = some (.str file_BadWord tf_BadWord))
    (fl_BadWord : ((P.main.file : Str) == file_BadWord) = true)
    (cc_BadWord : K.lookup cc_BadWord = some ⟨cl_BadWord, cld_BadWord, .cell (some (.ref C_BadWord)), csl_BadWord⟩)
    (aC_BadNumber : PySem.W.nsIn K mainGlobals "BadNumber" = some (some (.ref C_BadNumber)))
    (xL_BadNumber : K.lookup C_BadNumber = some (excClassObj nm_BadNumber q_BadNumber C_BadNumber N_BadNumber bs_BadNumber bm_BadNumber true sn_BadNumber sub_BadNumber ab_BadNumber col_BadNumber dd_BadNumber m0_BadNumber m1_BadNumber m2_BadNumber m3_BadNumber m5_BadNumber "ValueError.__new__"))
    (bm_BadNumber : PySem.HandSPX.refsVE bm_BadNumber = true)
    (sa_BadNumber : PySem.W.findIn K (.ref C_BadNumber) "__setattr__" = some (some (.builtin "object.__setattr__")))
    (ga_BadNumber : PySem.W.findIn K (.ref C_BadNumber) "__getattribute__" = some (some (.builtin "BaseException.__getattribute__")))
    (gg_BadNumber : PySem.W.findIn K (.ref C_BadNumber) "__getattr__" = some none)
    (no_number_BadNumber : PySem.W.findIn K (.ref C_BadNumber) "number" = some none)
    (iC_BadNumber : PySem.W.findIn K (.ref C_BadNumber) "__init__" = some (some (.ref fI_BadNumber)))
    (tI_BadNumber : PySem.W.typeIn K (.ref fI_BadNumber) = some (.type "function"))
    (kC_BadNumber : PySem.W.keepIn K (.ref C_BadNumber) = true)
    (ex_BadNumber : PySem.W.subIn K (.ref C_BadNumber) (.type "BaseException") = some true)
    (ve_BadNumber : PySem.W.subIn K (.ref C_BadNumber) (.type "ValueError") = some true)
    (ty_BadNumber : PySem.W.typeIn K (.ref C_BadNumber) = some (.type "type"))
    (hd_BadNumber : PySem.W.hasDictIn K C_BadNumber = true)
    (sup_BadNumber : PySem.W.ks_superIn K C_BadNumber C_BadNumber "__init__" = some (some (.builtin "ValueError.__init__")))
    (mro_BadNumber : PySem.W.mroIn K C_BadNumber (.ref C_BadNumber) = some true)
    (su_BadNumber : PySem.W.subIn K (.ref C_BadNumber) (.ref C_BadNumber) = some true)
    (ca_BadNumber : PySem.W.findIn K (.ref C_BadNumber) "__class__" = some (some (.builtin "object.__class__")))
    (mo_BadNumber : PySem.W.mroIn K C_BadNumber (.type "object") = some true)
    (l_BadNumber : K.lookup fI_BadNumber = some ⟨oc_BadNumber, od_BadNumber, .func (PySem.W.ksFn "__init__" "BadNumber.__init__" (defArgs (inClass (topS 4) 0)) (defBody (inClass (topS 4) 0)) (defScope (inClass (topS 4) 0)) .none kV_BadNumber dc_BadNumber pm_BadNumber an_BadNumber (.ref cda_BadNumber) ct_BadNumber cc_BadNumber), sl_BadNumber⟩)
    (c_BadNumber : PySem.W.codeIn K (.ref cda_BadNumber) "BadNumber.__init__" = true)
    (lc_BadNumber : K.lookup cda_BadNumber = some ⟨ccl_BadNumber, cdd_BadNumber, .fields vs_BadNumber, ccs_BadNumber⟩)
    (v2_BadNumber : vs_BadNumber[2]? = some (.str file_BadNumber tf_BadNumber))
    (fl_BadNumber : ((P.main.file : Str) == file_BadNumber) = true)
    (cc_BadNumber : K.lookup cc_BadNumber = some ⟨cl_BadNumber, cld_BadNumber, .cell (some (.ref C_BadNumber)), csl_BadNumber⟩)
    (aC_UnknownName : PySem.W.nsIn K mainGlobals "UnknownName" = some (some (.ref C_UnknownName)))
    (xL_UnknownName : K.lookup C_UnknownName = some (excClassObj nm_UnknownName q_UnknownName C_UnknownName N_UnknownName bs_UnknownName bm_UnknownName true sn_UnknownName sub_UnknownName ab_UnknownName col_UnknownName dd_UnknownName m0_UnknownName m1_UnknownName m2_UnknownName m3_UnknownName m5_UnknownName "ValueError.__new__"))
    (bm_UnknownName : PySem.HandSPX.refsVE bm_UnknownName = true)
    (sa_UnknownName : PySem.W.findIn K (.ref C_UnknownName) "__setattr__" = some (some (.builtin "object.__setattr__")))
    (ga_UnknownName : PySem.W.findIn K (.ref C_UnknownName) "__getattribute__" = some (some (.builtin "BaseException.__getattribute__")))
    (gg_UnknownName : PySem.W.findIn K (.ref C_UnknownName) "__getattr__" = some none)
    (no_name_UnknownName : PySem.W.findIn K (.ref C_UnknownName) "name" = some none)
    (iC_UnknownName : PySem.W.findIn K (.ref C_UnknownName) "__init__" = some (some (.ref fI_UnknownName)))
    (tI_UnknownName : PySem.W.typeIn K (.ref fI_UnknownName) = some (.type "function"))
    (kC_UnknownName : PySem.W.keepIn K (.ref C_UnknownName) = true)
    (ex_UnknownName : PySem.W.subIn K (.ref C_UnknownName) (.type "BaseException") = some true)
    (ve_UnknownName : PySem.W.subIn K (.ref C_UnknownName) (.type "ValueError") = some true)
    (ty_UnknownName : PySem.W.typeIn K (.ref C_UnknownName) = some (.type "type"))
    (hd_UnknownName : PySem.W.hasDictIn K C_UnknownName = true)
    (sup_UnknownName : PySem.W.ks_superIn K C_UnknownName C_UnknownName "__init__" = some (some (.builtin "ValueError.__init__")))
    (mro_UnknownName : PySem.W.mroIn K C_UnknownName (.ref C_UnknownName) = some true)
    (su_UnknownName : PySem.W.subIn K (.ref C_UnknownName) (.ref C_UnknownName) = some true)
    (ca_UnknownName : PySem.W.findIn K (.ref C_UnknownName) "__class__" = some (some (.builtin "object.__class__")))
    (mo_UnknownName : PySem.W.mroIn K C_UnknownName (.type "object") = some true)
    (l_UnknownName : K.lookup fI_UnknownName = some ⟨oc_UnknownName, od_UnknownName, .func (PySem.W.ksFn "__init__" "UnknownName.__init__" (defArgs (inClass (topS 5) 0)) (defBody (inClass (topS 5) 0)) (defScope (inClass (topS 5) 0)) .none kV_UnknownName dc_UnknownName pm_UnknownName an_UnknownName (.ref cda_UnknownName) ct_UnknownName cc_UnknownName), sl_UnknownName⟩)
    (c_UnknownName : PySem.W.codeIn K (.ref cda_UnknownName) "UnknownName.__init__" = true)
    (lc_UnknownName : K.lookup cda_UnknownName = some ⟨ccl_UnknownName, cdd_UnknownName, .fields vs_UnknownName, ccs_UnknownName⟩)
    (v2_UnknownName : vs_UnknownName[2]? = some (.str file_UnknownName tf_UnknownName))
    (fl_UnknownName : ((P.main.file : Str) == file_UnknownName) = true)
    (cc_UnknownName : K.lookup cc_UnknownName = some ⟨cl_UnknownName, cld_UnknownName, .cell (some (.ref C_UnknownName)), csl_UnknownName⟩)
    (aC_DoubleName : PySem.W.nsIn K mainGlobals "DoubleName" = some (some (.ref C_DoubleName)))
    (xL_DoubleName : K.lookup C_DoubleName = some (excClassObj nm_DoubleName q_DoubleName C_DoubleName N_DoubleName bs_DoubleName bm_DoubleName true sn_DoubleName sub_DoubleName ab_DoubleName col_DoubleName dd_DoubleName m0_DoubleName m1_DoubleName m2_DoubleName m3_DoubleName m5_DoubleName "ValueError.__new__"))
    (bm_DoubleName : PySem.HandSPX.refsVE bm_DoubleName = true)
    (sa_DoubleName : PySem.W.findIn K (.ref C_DoubleName) "__setattr__" = some (some (.builtin "object.__setattr__")))
    (ga_DoubleName : PySem.W.findIn K (.ref C_DoubleName) "__getattribute__" = some (some (.builtin "BaseException.__getattribute__")))
    (gg_DoubleName : PySem.W.findIn K (.ref C_DoubleName) "__getattr__" = some none)
    (no_name_DoubleName : PySem.W.findIn K (.ref C_DoubleName) "name" = some none)
    (iC_DoubleName : PySem.W.findIn K (.ref C_DoubleName) "__init__" = some (some (.ref fI_DoubleName)))
    (tI_DoubleName : PySem.W.typeIn K (.ref fI_DoubleName) = some (.type "function"))
    (kC_DoubleName : PySem.W.keepIn K (.ref C_DoubleName) = true)
    (ex_DoubleName : PySem.W.subIn K (.ref C_DoubleName) (.type "BaseException") = some true)
    (ve_DoubleName : PySem.W.subIn K (.ref C_DoubleName) (.type "ValueError") = some true)
    (ty_DoubleName : PySem.W.typeIn K (.ref C_DoubleName) = some (.type "type"))
    (hd_DoubleName : PySem.W.hasDictIn K C_DoubleName = true)
    (sup_DoubleName : PySem.W.ks_superIn K C_DoubleName C_DoubleName "__init__" = some (some (.builtin "ValueError.__init__")))
    (mro_DoubleName : PySem.W.mroIn K C_DoubleName (.ref C_DoubleName) = some true)
    (su_DoubleName : PySem.W.subIn K (.ref C_DoubleName) (.ref C_DoubleName) = some true)
    (ca_DoubleName : PySem.W.findIn K (.ref C_DoubleName) "__class__" = some (some (.builtin "object.__class__")))
    (mo_DoubleName : PySem.W.mroIn K C_DoubleName (.type "object") = some true)
    (l_DoubleName : K.lookup fI_DoubleName = some ⟨oc_DoubleName, od_DoubleName, .func (PySem.W.ksFn "__init__" "DoubleName.__init__" (defArgs (inClass (topS 6) 0)) (defBody (inClass (topS 6) 0)) (defScope (inClass (topS 6) 0)) .none kV_DoubleName dc_DoubleName pm_DoubleName an_DoubleName (.ref cda_DoubleName) ct_DoubleName cc_DoubleName), sl_DoubleName⟩)
    (c_DoubleName : PySem.W.codeIn K (.ref cda_DoubleName) "DoubleName.__init__" = true)
    (lc_DoubleName : K.lookup cda_DoubleName = some ⟨ccl_DoubleName, cdd_DoubleName, .fields vs_DoubleName, ccs_DoubleName⟩)
    (v2_DoubleName : vs_DoubleName[2]? = some (.str file_DoubleName tf_DoubleName))
    (fl_DoubleName : ((P.main.file : Str) == file_DoubleName) = true)
    (cc_DoubleName : K.lookup cc_DoubleName = some ⟨cl_DoubleName, cld_DoubleName, .cell (some (.ref C_DoubleName)), csl_DoubleName⟩)
    (aC_EmptyStep : PySem.W.nsIn K mainGlobals "EmptyStep" = some (some (.ref C_EmptyStep)))
    (xL_EmptyStep : K.lookup C_EmptyStep = some (excClassObj nm_EmptyStep q_EmptyStep C_EmptyStep N_EmptyStep bs_EmptyStep bm_EmptyStep true sn_EmptyStep sub_EmptyStep ab_EmptyStep col_EmptyStep dd_EmptyStep m0_EmptyStep m1_EmptyStep m2_EmptyStep m3_EmptyStep m5_EmptyStep "ValueError.__new__"))
    (bm_EmptyStep : PySem.HandSPX.refsVE bm_EmptyStep = true)
    (sa_EmptyStep : PySem.W.findIn K (.ref C_EmptyStep) "__setattr__" = some (some (.builtin "object.__setattr__")))
    (ga_EmptyStep : PySem.W.findIn K (.ref C_EmptyStep) "__getattribute__" = some (some (.builtin "BaseException.__getattribute__")))
    (gg_EmptyStep : PySem.W.findIn K (.ref C_EmptyStep) "__getattr__" = some none)
    (no_name_EmptyStep : PySem.W.findIn K (.ref C_EmptyStep) "name" = some none)
    (iC_EmptyStep : PySem.W.findIn K (.ref C_EmptyStep) "__init__" = some (some (.ref fI_EmptyStep)))
    (tI_EmptyStep : PySem.W.typeIn K (.ref fI_EmptyStep) = some (.type "function"))
    (kC_EmptyStep : PySem.W.keepIn K (.ref C_EmptyStep) = true)
    (ex_EmptyStep : PySem.W.subIn K (.ref C_EmptyStep) (.type "BaseException") = some true)
    (ve_EmptyStep : PySem.W.subIn K (.ref C_EmptyStep) (.type "ValueError") = some true)
    (ty_EmptyStep : PySem.W.typeIn K (.ref C_EmptyStep) = some (.type "type"))
    (hd_EmptyStep : PySem.W.hasDictIn K C_EmptyStep = true)
    (sup_EmptyStep : PySem.W.ks_superIn K C_EmptyStep C_EmptyStep "__init__" = some (some (.builtin "ValueError.__init__")))
    (mro_EmptyStep : PySem.W.mroIn K C_EmptyStep (.ref C_EmptyStep) = some true)
    (su_EmptyStep : PySem.W.subIn K (.ref C_EmptyStep) (.ref C_EmptyStep) = some true)
    (ca_EmptyStep : PySem.W.findIn K (.ref C_EmptyStep) "__class__" = some (some (.builtin "object.__class__")))
    (mo_EmptyStep : PySem.W.mroIn K C_EmptyStep (.type "object") = some true)
    (l_EmptyStep : K.lookup fI_EmptyStep = some ⟨oc_EmptyStep, od_EmptyStep, .func (PySem.W.ksFn "__init__" "EmptyStep.__init__" (defArgs (inClass (topS 7) 0)) (defBody (inClass (topS 7) 0)) (defScope (inClass (topS 7) 0)) .none kV_EmptyStep dc_EmptyStep pm_EmptyStep an_EmptyStep (.ref cda_EmptyStep) ct_EmptyStep cc_EmptyStep), sl_EmptyStep⟩)
    (c_EmptyStep : PySem.W.codeIn K (.ref cda_EmptyStep) "EmptyStep.__init__" = true)
    (lc_EmptyStep : K.lookup cda_EmptyStep = some ⟨ccl_EmptyStep, cdd_EmptyStep, .fields vs_EmptyStep, ccs_EmptyStep⟩)
    (v2_EmptyStep : vs_EmptyStep[2]? = some (.str file_EmptyStep tf_EmptyStep))
    (fl_EmptyStep : ((P.main.file : Str) == file_EmptyStep) = true)
    (cc_EmptyStep : K.lookup cc_EmptyStep = some ⟨cl_EmptyStep, cld_EmptyStep, .cell (some (.ref C_EmptyStep)), csl_EmptyStep⟩)
    (aC_TooMany : PySem.W.nsIn K mainGlobals "TooMany" = some (some (.ref C_TooMany)))
    (xL_TooMany : K.lookup C_TooMany = some (excClassObj nm_TooMany q_TooMany C_TooMany N_TooMany bs_TooMany bm_TooMany true sn_TooMany sub_TooMany ab_TooMany col_TooMany dd_TooMany m0_TooMany m1_TooMany m2_TooMany m3_TooMany m5_TooMany "ValueError.__new__"))
    (bm_TooMany : PySem.HandSPX.refsVE bm_TooMany = true)
    (sa_TooMany : PySem.W.findIn K (.ref C_TooMany) "__setattr__" = some (some (.builtin "object.__setattr__")))
    (ga_TooMany : PySem.W.findIn K (.ref C_TooMany) "__getattribute__" = some (some (.builtin "BaseException.__getattribute__")))
    (gg_TooMany : PySem.W.findIn K (.ref C_TooMany) "__getattr__" = some none)
    (no_kind_TooMany : PySem.W.findIn K (.ref C_TooMany) "kind" = some none)
    (no_limit_TooMany : PySem.W.findIn K (.ref C_TooMany) "limit" = some none)
    (iC_TooMany : PySem.W.findIn K (.ref C_TooMany) "__init__" = some (some (.ref fI_TooMany)))
    (tI_TooMany : PySem.W.typeIn K (.ref fI_TooMany) = some (.type "function"))
    (kC_TooMany : PySem.W.keepIn K (.ref C_TooMany) = true)
    (ex_TooMany : PySem.W.subIn K (.ref C_TooMany) (.type "BaseException") = some true)
    (ve_TooMany : PySem.W.subIn K (.ref C_TooMany) (.type "ValueError") = some true)
    (ty_TooMany : PySem.W.typeIn K (.ref C_TooMany) = some (.type "type"))
    (hd_TooMany : PySem.W.hasDictIn K C_TooMany = true)
    (sup_TooMany : PySem.W.ks_superIn K C_TooMany C_TooMany "__init__" = some (some (.builtin "ValueError.__init__")))
    (mro_TooMany : PySem.W.mroIn K C_TooMany (.ref C_TooMany) = some true)
    (su_TooMany : PySem.W.subIn K (.ref C_TooMany) (.ref C_TooMany) = some true)
    (ca_TooMany : PySem.W.findIn K (.ref C_TooMany) "__class__" = some (some (.builtin "object.__class__")))
    (mo_TooMany : PySem.W.mroIn K C_TooMany (.type "object") = some true)
    (l_TooMany : K.lookup fI_TooMany = some ⟨oc_TooMany, od_TooMany, .func (PySem.W.ksFn "__init__" "TooMany.__init__" (defArgs (inClass (topS 8) 0)) (defBody (inClass (topS 8) 0)) (defScope (inClass (topS 8) 0)) .none kV_TooMany dc_TooMany pm_TooMany an_TooMany (.ref cda_TooMany) ct_TooMany cc_TooMany), sl_TooMany⟩)
    (c_TooMany : PySem.W.codeIn K (.ref cda_TooMany) "TooMany.__init__" = true)
    (lc_TooMany : K.lookup cda_TooMany = some ⟨ccl_TooMany, cdd_TooMany, .fields vs_TooMany, ccs_TooMany⟩)
    (v2_TooMany : vs_TooMany[2]? = some (.str file_TooMany tf_TooMany))
    (fl_TooMany : ((P.main.file : Str) == file_TooMany) = true)
    (cc_TooMany : K.lookup cc_TooMany = some ⟨cl_TooMany, cld_TooMany, .cell (some (.ref C_TooMany)), csl_TooMany⟩)
    (aC_Plan : PySem.W.nsIn K mainGlobals "Plan" = some (some (.ref C_Plan)))
    (pg_Plan : PySem.W.plainGet K C_Plan Str.empty = true)
    (hd_Plan : PySem.W.hasDictIn K C_Plan = true)
    (po_Plan : PySem.W.plainOver K C_Plan = true)
    (sa_Plan : PySem.W.findIn K (.ref C_Plan) "__setattr__" = some (some (.builtin "object.__setattr__")))
    (no_places_Plan : PySem.W.findIn K (.ref C_Plan) "places" = some none)
    (no_begin_Plan : PySem.W.findIn K (.ref C_Plan) "begin" = some none)
    (no_taken_Plan : PySem.W.findIn K (.ref C_Plan) "taken" = some none)
    (no_given_Plan : PySem.W.findIn K (.ref C_Plan) "given" = some none)
    (no_steps_Plan : PySem.W.findIn K (.ref C_Plan) "steps" = some none)
    (mk_Plan : PySem.W.makesIn K C_Plan = true)
    (kC_Plan : PySem.W.keepIn K (.ref C_Plan) = true)
    (a_Plan___init__ : PySem.W.findIn K (.ref C_Plan) "__init__" = some (some (.ref f_Plan___init__)))
    (i_Plan___init__ : PySem.W.isFn K (.ref f_Plan___init__) = true)
    (l_Plan___init__ : K.lookup f_Plan___init__ = some ⟨oc_Plan___init__, od_Plan___init__, .func (PySem.W.fnOf "__init__" "Plan.__init__" (defArgs s_Plan___init__) (defBody s_Plan___init__) (defScope s_Plan___init__) .none kV_Plan___init__ dc_Plan___init__ pm_Plan___init__ an_Plan___init__ cd_Plan___init__ ct_Plan___init__), sl_Plan___init__⟩)
    (c_Plan___init__ : PySem.W.codeIn K cd_Plan___init__ "Plan.__init__" = true)
    (k_Plan___init__ : PySem.W.keepIn K (.ref f_Plan___init__) = true)
    (a_Plan_put_step : PySem.W.findIn K (.ref C_Plan) "put_step" = some (some (.ref f_Plan_put_step)))
    (i_Plan_put_step : PySem.W.isFn K (.ref f_Plan_put_step) = true)
    (l_Plan_put_step : K.lookup f_Plan_put_step = some ⟨oc_Plan_put_step, od_Plan_put_step, .func (PySem.W.fnOf "put_step" "Plan.put_step" (defArgs s_Plan_put_step) (defBody s_Plan_put_step) (defScope s_Plan_put_step) .none kV_Plan_put_step dc_Plan_put_step pm_Plan_put_step an_Plan_put_step cd_Plan_put_step ct_Plan_put_step), sl_Plan_put_step⟩)
    (c_Plan_put_step : PySem.W.codeIn K cd_Plan_put_step "Plan.put_step" = true)
    (k_Plan_put_step : PySem.W.keepIn K (.ref f_Plan_put_step) = true)
    (kH_TooMany : PySem.W.kitOne K (.ref C_TooMany) (.ref C_HeldError) = some true)
    (kH_BadWord : PySem.W.kitOne K (.ref C_BadWord) (.ref C_HeldError) = some true)
    (kH_DoubleName : PySem.W.kitOne K (.ref C_DoubleName) (.ref C_HeldError) = some true)
    (kH_BadNumber : PySem.W.kitOne K (.ref C_BadNumber) (.ref C_HeldError) = some true)
    (kH_EmptyStep : PySem.W.kitOne K (.ref C_EmptyStep) (.ref C_HeldError) = some true)
    (kH_UnknownName : PySem.W.kitOne K (.ref C_UnknownName) (.ref C_HeldError) = some true)
    (xN_TooMany_BadWord : PySem.W.exmOne K (.ref C_TooMany) (.ref C_BadWord) = some false)
    (xN_TooMany_DoubleName : PySem.W.exmOne K (.ref C_TooMany) (.ref C_DoubleName) = some false)
    (xN_TooMany_BadNumber : PySem.W.exmOne K (.ref C_TooMany) (.ref C_BadNumber) = some false)
    (xN_TooMany_EmptyStep : PySem.W.exmOne K (.ref C_TooMany) (.ref C_EmptyStep) = some false)
    (xN_TooMany_UnknownName : PySem.W.exmOne K (.ref C_TooMany) (.ref C_UnknownName) = some false)
    (xN_BadWord_TooMany : PySem.W.exmOne K (.ref C_BadWord) (.ref C_TooMany) = some false)
    (xN_BadWord_DoubleName : PySem.W.exmOne K (.ref C_BadWord) (.ref C_DoubleName) = some false)
    (xN_BadWord_BadNumber : PySem.W.exmOne K (.ref C_BadWord) (.ref C_BadNumber) = some false)
    (xN_BadWord_EmptyStep : PySem.W.exmOne K (.ref C_BadWord) (.ref C_EmptyStep) = some false)
    (xN_BadWord_UnknownName : PySem.W.exmOne K (.ref C_BadWord) (.ref C_UnknownName) = some false)
    (xN_DoubleName_TooMany : PySem.W.exmOne K (.ref C_DoubleName) (.ref C_TooMany) = some false)
    (xN_DoubleName_BadWord : PySem.W.exmOne K (.ref C_DoubleName) (.ref C_BadWord) = some false)
    (xN_DoubleName_BadNumber : PySem.W.exmOne K (.ref C_DoubleName) (.ref C_BadNumber) = some false)
    (xN_DoubleName_EmptyStep : PySem.W.exmOne K (.ref C_DoubleName) (.ref C_EmptyStep) = some false)
    (xN_DoubleName_UnknownName : PySem.W.exmOne K (.ref C_DoubleName) (.ref C_UnknownName) = some false)
    (xN_BadNumber_TooMany : PySem.W.exmOne K (.ref C_BadNumber) (.ref C_TooMany) = some false)
    (xN_BadNumber_BadWord : PySem.W.exmOne K (.ref C_BadNumber) (.ref C_BadWord) = some false)
    (xN_BadNumber_DoubleName : PySem.W.exmOne K (.ref C_BadNumber) (.ref C_DoubleName) = some false)
    (xN_BadNumber_EmptyStep : PySem.W.exmOne K (.ref C_BadNumber) (.ref C_EmptyStep) = some false)
    (xN_BadNumber_UnknownName : PySem.W.exmOne K (.ref C_BadNumber) (.ref C_UnknownName) = some false)
    (xN_EmptyStep_TooMany : PySem.W.exmOne K (.ref C_EmptyStep) (.ref C_TooMany) = some false)
    (xN_EmptyStep_BadWord : PySem.W.exmOne K (.ref C_EmptyStep) (.ref C_BadWord) = some false)
    (xN_EmptyStep_DoubleName : PySem.W.exmOne K (.ref C_EmptyStep) (.ref C_DoubleName) = some false)
    (xN_EmptyStep_BadNumber : PySem.W.exmOne K (.ref C_EmptyStep) (.ref C_BadNumber) = some false)
    (xN_EmptyStep_UnknownName : PySem.W.exmOne K (.ref C_EmptyStep) (.ref C_UnknownName) = some false)
    (xN_UnknownName_TooMany : PySem.W.exmOne K (.ref C_UnknownName) (.ref C_TooMany) = some false)
    (xN_UnknownName_BadWord : PySem.W.exmOne K (.ref C_UnknownName) (.ref C_BadWord) = some false)
    (xN_UnknownName_DoubleName : PySem.W.exmOne K (.ref C_UnknownName) (.ref C_DoubleName) = some false)
    (xN_UnknownName_BadNumber : PySem.W.exmOne K (.ref C_UnknownName) (.ref C_BadNumber) = some false)
    (xN_UnknownName_EmptyStep : PySem.W.exmOne K (.ref C_UnknownName) (.ref C_EmptyStep) = some false) :
    ∃ fd : FuncData, (∀ (s : Shared) (v : Value), BindsTo s fd ⟨[v], []⟩ [("_law_script", v)]) ∧ ∀ base : Heap, K.In base → base.Ns mainGlobals mg → FnOk P w K mg base CX0 8 fa fd ["_law_script"] (spLaw K) := by
  have e := hfa.symm.trans (PySem.W.mg_of X G a_law)
  cases e
  have B : Bl mg := ⟨PySem.W.mg_none_of X G z_len, PySem.W.mg_none_of X G z_range, PySem.W.mg_none_of X G z_abs, PySem.W.mg_none_of X G z_sum, PySem.W.mg_none_of X G z_sorted, PySem.W.mg_none_of X G z_isinstance, PySem.W.mg_none_of X G z_zip, PySem.W.mg_none_of X G z_enumerate, PySem.W.mg_none_of X G z_reversed, PySem.W.mg_none_of X G z_int, PySem.W.mg_none_of X G z_str, PySem.W.mg_none_of X G z_list, PySem.W.mg_none_of X G z_tuple, PySem.W.mg_none_of X G z_bool, PySem.W.mg_none_of X G z_all, PySem.W.mg_none_of X G z_any, PySem.W.mg_none_of X G z_ValueError⟩
  have g_LETTERS := glo_str X G a_LETTERS
  have g_DIGITS := glo_str X G a_DIGITS
  have g_MOST_SIGNS := glo_int X G a_MOST_SIGNS
  have g_MOST_PLACES := glo_int X G a_MOST_PLACES
  have g_MOST_STEPS := glo_int X G a_MOST_STEPS
  have g_MOST_BEGIN := glo_int X G a_MOST_BEGIN
  have F_is_word : Src K mg "is_word" s_is_word ["word"] := src_mk X G a_is_word l_is_word c_is_word k_is_word (fun _ _ _ _ _ _ us hl => match us, hl with | [_], _ => rfl)
  have F_check_word : Src K mg "check_word" s_check_word ["word"] := src_mk X G a_check_word l_check_word c_check_word k_check_word (fun _ _ _ _ _ _ us hl => match us, hl with | [_], _ => rfl)
  have F_check_number : Src K mg "check_number" s_check_number ["number", "least", "most"] := src_mk X G a_check_number l_check_number c_check_number k_check_number (fun _ _ _ _ _ _ us hl => match us, hl with | [_, _, _], _ => rfl)
  have F_check_names : Src K mg "check_names" s_check_names ["names", "known"] := src_mk X G a_check_names l_check_names c_check_names k_check_names (fun _ _ _ _ _ _ us hl => match us, hl with | [_, _], _ => rfl)
  have F_in_order : Src K mg "in_order" s_in_order ["names", "places"] := src_mk X G a_in_order l_in_order c_in_order k_in_order (fun _ _ _ _ _ _ us hl => match us, hl with | [_, _], _ => rfl)
  have F__law_box : Src K mg "_law_box" s__law_box ["_law_script"] := src_mk X G a__law_box l__law_box c__law_box k__law_box (fun _ _ _ _ _ _ us hl => match us, hl with | [_], _ => rfl)
  have F__law_next : Src K mg "_law_next" s__law_next ["_law_box_here", "_law_many"] := src_mk X G a__law_next l__law_next c__law_next k__law_next (fun _ _ _ _ _ _ us hl => match us, hl with | [_, _], _ => rfl)
  have F__law_word : Src K mg "_law_word" s__law_word ["_law_box_here"] := src_mk X G a__law_word l__law_word c__law_word k__law_word (fun _ _ _ _ _ _ us hl => match us, hl with | [_], _ => rfl)
  have F__law_words : Src K mg "_law_words" s__law_words ["_law_box_here", "_law_many"] := src_mk X G a__law_words l__law_words c__law_words k__law_words (fun _ _ _ _ _ _ us hl => match us, hl with | [_, _], _ => rfl)
  have F__law_name : Src K mg "_law_name" s__law_name ["_law_box_here", "_law_used", "_law_spare"] := src_mk X G a__law_name l__law_name c__law_name k__law_name (fun _ _ _ _ _ _ us hl => match us, hl with | [_, _, _], _ => rfl)
  have F__law_listed : Src K mg "_law_listed" s__law_listed ["_law_box_here", "_law_words_here", "_law_least"] := src_mk X G a__law_listed l__law_listed c__law_listed k__law_listed (fun _ _ _ _ _ _ us hl => match us, hl with | [_, _, _], _ => rfl)
  have F__law_rows : Src K mg "_law_rows" s__law_rows ["_law_box_here"] := src_mk X G a__law_rows l__law_rows c__law_rows k__law_rows (fun _ _ _ _ _ _ us hl => match us, hl with | [_], _ => rfl)
  have F__law_bad : Src K mg "_law_bad" s__law_bad ["_law_word_here"] := src_mk X G a__law_bad l__law_bad c__law_bad k__law_bad (fun _ _ _ _ _ _ us hl => match us, hl with | [_], _ => rfl)
  have F__law_list_due : Src K mg "_law_list_due" s__law_list_due ["_law_names", "_law_words_here"] := src_mk X G a__law_list_due l__law_list_due c__law_list_due k__law_list_due (fun _ _ _ _ _ _ us hl => match us, hl with | [_, _], _ => rfl)
  have F__law_step_due : Src K mg "_law_step_due" s__law_step_due ["_law_steps", "_law_k", "_law_words_here"] := src_mk X G a__law_step_due l__law_step_due c__law_step_due k__law_step_due (fun _ _ _ _ _ _ us hl => match us, hl with | [_, _, _], _ => rfl)
  have F__law_due : Src K mg "_law_due" s__law_due ["_law_places", "_law_steps"] := src_mk X G a__law_due l__law_due c__law_due k__law_due (fun _ _ _ _ _ _ us hl => match us, hl with | [_, _], _ => rfl)
  have F__law_told : Src K mg "_law_told" s__law_told ["_law_places", "_law_steps"] := src_mk X G a__law_told l__law_told c__law_told k__law_told (fun _ _ _ _ _ _ us hl => match us, hl with | [_, _], _ => rfl)
  have g_HeldError := glo_ref X G aC_HeldError
  have nn_BadWord : ∀ f ∈ (["word"] : List Str), PySem.W.findIn K (.ref C_BadWord) f = some none := fun f hf => by
      simp only [List.mem_cons, List.not_mem_nil, or_false] at hf
      rcases hf with rfl
      · exact no_word_BadWord
  have X_BadWord : ErrTxt P K mg false "BadWord" C_BadWord fI_BadWord ["word"] := err_mk (st := inClass (topS 3) 0) (fp := [("word", _, _, _, _)]) X G aC_BadWord z_super xL_BadWord bm_BadWord sa_BadWord ga_BadWord gg_BadWord nn_BadWord
    iC_BadWord tI_BadWord kC_BadWord ex_BadWord ve_BadWord ty_BadWord hd_BadWord sup_BadWord mro_BadWord su_BadWord ca_BadWord e_cg e_ct mo_BadWord e_opq top l_BadWord c_BadWord lc_BadWord v2_BadWord fl_BadWord cc_BadWord rfl rfl rfl rfl (by decide +kernel) (by decide +kernel) (by decide +kernel) (by decide +kernel) (by decide +kernel) (by decide +kernel) (by decide +kernel) rfl rfl rfl
    (fun _ _ _ _ _ _ _ s x us hl => match us, hl with | [_], _ => .of_eq rfl) (fun x us hl => match us, hl with | [_], _ => ⟨by rfl, .cons (by rfl) (.nil)⟩) (.inl ⟨rfl, _, _, _, rfl⟩)
  have nn_BadNumber : ∀ f ∈ (["number"] : List Str), PySem.W.findIn K (.ref C_BadNumber) f = some none := fun f hf => by
      simp only [List.mem_cons, List.not_mem_nil, or_false] at hf
      rcases hf with rfl
      · exact no_number_BadNumber
  have X_BadNumber : ErrTxt P K mg false "BadNumber" C_BadNumber fI_BadNumber ["number"] := err_mk (st := inClass (topS 4) 0) (fp := [("number", _, _, _, _)]) X G aC_BadNumber z_super xL_BadNumber bm_BadNumber sa_BadNumber ga_BadNumber gg_BadNumber nn_BadNumber
    iC_BadNumber tI_BadNumber kC_BadNumber ex_BadNumber ve_BadNumber ty_BadNumber hd_BadNumber sup_BadNumber mro_BadNumber su_BadNumber ca_BadNumber e_cg e_ct mo_BadNumber e_opq top l_BadNumber c_BadNumber lc_BadNumber v2_BadNumber fl_BadNumber cc_BadNumber rfl rfl rfl rfl (by decide +kernel) (by decide +kernel) (by decide +kernel) (by decide +kernel) (by decide +kernel) (by decide +kernel) (by decide +kernel) rfl rfl rfl
    (fun _ _ _ _ _ _ _ s x us hl => match us, hl with | [_], _ => .of_eq rfl) (fun x us hl => match us, hl with | [_], _ => ⟨by rfl, .cons (by rfl) (.nil)⟩) (.inl ⟨rfl, _, _, _, rfl⟩)
  have nn_UnknownName : ∀ f ∈ (["name"] : List Str), PySem.W.findIn K (.ref C_UnknownName) f = some none := fun f hf => by
      simp only [List.mem_cons, List.not_mem_nil, or_false] at hf
      rcases hf with rfl
      · exact no_name_UnknownName
  have X_UnknownName : ErrTxt P K mg false "UnknownName" C_UnknownName fI_UnknownName ["name"] := err_mk (st := inClass (topS 5) 0) (fp := [("name", _, _, _, _)]) X G aC_UnknownName z_super xL_UnknownName bm_UnknownName sa_UnknownName ga_UnknownName gg_UnknownName nn_UnknownName
    iC_UnknownName tI_UnknownName kC_UnknownName ex_UnknownName ve_UnknownName ty_UnknownName hd_UnknownName sup_UnknownName mro_UnknownName su_UnknownName ca_UnknownName e_cg e_ct mo_UnknownName e_opq top l_UnknownName c_UnknownName lc_UnknownName v2_UnknownName fl_UnknownName cc_UnknownName rfl rfl rfl rfl (by decide +kernel) (by decide +kernel) (by decide +kernel) (by decide +kernel) (by decide +kernel) (by decide +kernel) (by decide +kernel) rfl rfl rfl
    (fun _ _ _ _ _ _ _ s x us hl => match us, hl with | [_], _ => .of_eq rfl) (fun x us hl => match us, hl with | [_], _ => ⟨by rfl, .cons (by rfl) (.nil)⟩) (.inl ⟨rfl, _, _, _, rfl⟩)
  have nn_DoubleName : ∀ f ∈ (["name"] : List Str), PySem.W.findIn K (.ref C_DoubleName) f = some none := fun f hf => by
      simp only [List.mem_cons, List.not_mem_nil, or_false] at hf
      rcases hf with rfl
      · exact no_name_DoubleName
  have X_DoubleName : ErrTxt P K mg false "DoubleName" C_DoubleName fI_DoubleName ["name"] := err_mk (st := inClass (topS 6) 0) (fp := [("name", _, _, _, _)]) X G aC_DoubleName z_super xL_DoubleName bm_DoubleName sa_DoubleName ga_DoubleName gg_DoubleName nn_DoubleName
    iC_DoubleName tI_DoubleName kC_DoubleName ex_DoubleName ve_DoubleName ty_DoubleName hd_DoubleName sup_DoubleName mro_DoubleName su_DoubleName ca_DoubleName e_cg e_ct mo_DoubleName e_opq top l_DoubleName c_DoubleName lc_DoubleName v2_DoubleName fl_DoubleName cc_DoubleName rfl rfl rfl rfl (by decide +kernel) (by decide +kernel) (by decide +kernel) (by decide +kernel) (by decide +kernel) (by decide +kernel) (by decide +kernel) rfl rfl rfl
    (fun _ _ _ _ _ _ _ s x us hl => match us, hl with | [_], _ => .of_eq rfl) (fun x us hl => match us, hl with | [_], _ => ⟨by rfl, .cons (by rfl) (.nil)⟩) (.inl ⟨rfl, _, _, _, rfl⟩)
  have nn_EmptyStep : ∀ f ∈ (["name"] : List Str), PySem.W.findIn K (.ref C_EmptyStep) f = some none := fun f hf => by
      simp only [List.mem_cons, List.not_mem_nil, or_false] at hf
      rcases hf with rfl
      · exact no_name_EmptyStep
  have X_EmptyStep : ErrTxt P K mg false "EmptyStep" C_EmptyStep fI_EmptyStep ["name"] := err_mk (st := inClass (topS 7) 0) (fp := [("name", _, _, _, _)]) X G aC_EmptyStep z_super xL_EmptyStep bm_EmptyStep sa_EmptyStep ga_EmptyStep gg_EmptyStep nn_EmptyStep
    iC_EmptyStep tI_EmptyStep kC_EmptyStep ex_EmptyStep ve_EmptyStep ty_EmptyStep hd_EmptyStep sup_EmptyStep mro_EmptyStep su_EmptyStep ca_EmptyStep e_cg e_ct mo_EmptyStep e_opq top l_EmptyStep c_EmptyStep lc_EmptyStep v2_EmptyStep fl_EmptyStep cc_EmptyStep rfl rfl rfl rfl (by decide +kernel) (by decide +kernel) (by decide +kernel) (by decide +kernel) (by decide +kernel) (by decide +kernel) (by decide +kernel) rfl rfl rfl
    (fun _ _ _ _ _ _ _ s x us hl => match us, hl with | [_], _ => .of_eq rfl) (fun x us hl => match us, hl with | [_], _ => ⟨by rfl, .cons (by rfl) (.nil)⟩) (.inl ⟨rfl, _, _, _, rfl⟩)
  have nn_TooMany : ∀ f ∈ (["kind", "limit"] : List Str), PySem.W.findIn K (.ref C_TooMany) f = some none := fun f hf => by
      simp only [List.mem_cons, List.not_mem_nil, or_false] at hf
      rcases hf with rfl | rfl
      · exact no_kind_TooMany
      · exact no_limit_TooMany
  have X_TooMany : ErrTxt P K mg true "TooMany" C_TooMany fI_TooMany ["kind", "limit"] := err_mk (st := inClass (topS 8) 0) (fp := [("kind", _, _, _, _), ("limit", _, _, _, _)]) X G aC_TooMany z_super xL_TooMany bm_TooMany sa_TooMany ga_TooMany gg_TooMany nn_TooMany
    iC_TooMany tI_TooMany kC_TooMany ex_TooMany ve_TooMany ty_TooMany hd_TooMany sup_TooMany mro_TooMany su_TooMany ca_TooMany e_cg e_ct mo_TooMany e_opq top l_TooMany c_TooMany lc_TooMany v2_TooMany fl_TooMany cc_TooMany rfl rfl rfl rfl (by decide +kernel) (by decide +kernel) (by decide +kernel) (by decide +kernel) (by decide +kernel) (by decide +kernel) (by decide +kernel) rfl rfl rfl
    (fun _ _ _ _ _ _ _ s x us hl => match us, hl with | [_, _], _ => .of_eq rfl) (fun x us hl => match us, hl with | [_, _], _ => ⟨by rfl, .cons (by rfl) (.cons (by rfl) (.nil))⟩) (.inr ⟨rfl, _, _, _, _, _, _, rfl, by decide, rfl⟩)
  have FI_Plan : SrcI K C_Plan "Plan.__init__" s_Plan___init__ ["self", "places", "steps"] := srcI_mk mk_Plan kC_Plan a_Plan___init__ i_Plan___init__ l_Plan___init__ c_Plan___init__ k_Plan___init__ (fun _ _ _ _ _ _ us hl => match us, hl with | [_, _, _], _ => rfl)
  have FM_Plan_put_step : SrcM K C_Plan "put_step" "Plan.put_step" s_Plan_put_step ["self", "word", "takes", "gives"] := srcM_mk a_Plan_put_step i_Plan_put_step l_Plan_put_step c_Plan_put_step k_Plan_put_step (fun _ _ _ _ _ _ us hl => match us, hl with | [_, _, _, _], _ => rfl)
  have m_Plan := PySem.W.mg_of X G aC_Plan
  have CL_Plan : Cls K C_Plan := ⟨pg_Plan, hd_Plan, po_Plan, sa_Plan⟩
  have kk : ErrKinds K (⟨C_TooMany, C_BadWord, C_DoubleName, C_BadNumber, C_EmptyStep, C_UnknownName⟩ : ECs) C_HeldError := ⟨fun i => match i with | .tooMany => kH_TooMany | .badWord => kH_BadWord | .double => kH_DoubleName | .badNumber => kH_BadNumber | .empty => kH_EmptyStep | .unknown => kH_UnknownName, fun i j h => match i, j, h with | .tooMany, .tooMany, h => absurd rfl h | .tooMany, .badWord, h => xN_TooMany_BadWord | .tooMany, .double, h => xN_TooMany_DoubleName | .tooMany, .badNumber, h => xN_TooMany_BadNumber | .tooMany, .empty, h => xN_TooMany_EmptyStep | .tooMany, .unknown, h => xN_TooMany_UnknownName | .badWord, .tooMany, h => xN_BadWord_TooMany | .badWord, .badWord, h => absurd rfl h | .badWord, .double, h => xN_BadWord_DoubleName | .badWord, .badNumber, h => xN_BadWord_BadNumber | .badWord, .empty, h => xN_BadWord_EmptyStep | .badWord, .unknown, h => xN_BadWord_UnknownName | .double, .tooMany, h => xN_DoubleName_TooMany | .double, .badWord, h => xN_DoubleName_BadWord | .double, .double, h => absurd rfl h | .double, .badNumber, h => xN_DoubleName_BadNumber | .double, .empty, h => xN_DoubleName_EmptyStep | .double, .unknown, h => xN_DoubleName_UnknownName | .badNumber, .tooMany, h => xN_BadNumber_TooMany | .badNumber, .badWord, h => xN_BadNumber_BadWord | .badNumber, .double, h => xN_BadNumber_DoubleName | .badNumber, .badNumber, h => absurd rfl h | .badNumber, .empty, h => xN_BadNumber_EmptyStep | .badNumber, .unknown, h => xN_BadNumber_UnknownName | .empty, .tooMany, h => xN_EmptyStep_TooMany | .empty, .badWord, h => xN_EmptyStep_BadWord | .empty, .double, h => xN_EmptyStep_DoubleName | .empty, .badNumber, h => xN_EmptyStep_BadNumber | .empty, .empty, h => absurd rfl h | .empty, .unknown, h => xN_EmptyStep_UnknownName | .unknown, .tooMany, h => xN_UnknownName_TooMany | .unknown, .badWord, h => xN_UnknownName_BadWord | .unknown, .double, h => xN_UnknownName_DoubleName | .unknown, .badNumber, h => xN_UnknownName_BadNumber | .unknown, .empty, h => xN_UnknownName_EmptyStep | .unknown, .unknown, h => absurd rfl h⟩
  refine ⟨PySem.W.fnOf "law" "law" (defArgs s_law) (defBody s_law) (defScope s_law) .none kV_law dc_law pm_law an_law cd_law ct_law, fun s v => .of_eq rfl, fun base hK hN => ?_⟩
  have T_Plan : PlanC K mg C_Plan := ⟨CL_Plan, m_Plan, no_places_Plan, no_begin_Plan, no_taken_Plan, no_given_Plan, no_steps_Plan⟩
  have P1 : Def P w K mg base CX0 1 "is_word" _ spIsWord := ok_is_word B g_LETTERS g_DIGITS g_MOST_SIGNS F_is_word
  have P2 : Def P w K mg base (L2.CX P w) 2 "check_word" _ (spCheckWord C_BadWord) := ok_check_word X_BadWord P1 F_check_word
  have P3 : Def P w K mg base (L2.CX P w) 1 "check_number" _ (spCheckNumber C_BadNumber) := ok_check_number X_BadNumber F_check_number
  have P4 : Def P w K mg base (L2.CX P w) 1 "check_names" _ (spCheckNames K C_UnknownName C_DoubleName) := ok_check_names B X_UnknownName X_DoubleName F_check_names
  have P5 : Def P w K mg base (L2.CX P w) 2 "in_order" _ (spInOrder K (⟨C_TooMany, C_BadWord, C_DoubleName, C_BadNumber, C_EmptyStep, C_UnknownName⟩ : ECs)) := ok_in_order B P4 F_in_order
  have P6 : DefM P w K mg base (L2.CX P w) 3 C_Plan "put_step" _ (spPut K (⟨C_TooMany, C_BadWord, C_DoubleName, C_BadNumber, C_EmptyStep, C_UnknownName⟩ : ECs) C_Plan) := ok_put_step (f_BadWord := fI_BadWord) B T_Plan X_DoubleName X_EmptyStep P2 P5 FM_Plan_put_step
  have DI_Plan : DefI P w K mg base (L2.CX P w) 4 C_Plan _ (spInit K (⟨C_TooMany, C_BadWord, C_DoubleName, C_BadNumber, C_EmptyStep, C_UnknownName⟩ : ECs) C_Plan) := ok_plan_init B T_Plan g_MOST_PLACES g_MOST_STEPS g_MOST_BEGIN X_TooMany X_DoubleName (P2.mono (by decide)) (P3.mono (by decide)) P6 FI_Plan
  have D1 : Def P w K mg base CX0 1 "_law_next" _ spNext := ok_next B F__law_next
  have D2 : Def P w K mg base CX0 1 "_law_box" _ (spBox K) := ok_box B F__law_box
  have D3 : Def P w K mg base CX0 2 "_law_word" _ spWord := ok_word B D1 F__law_word
  have D4 : Def P w K mg base CX0 3 "_law_words" _ spWords := ok_words B D3 F__law_words
  have D5 : Def P w K mg base CX0 2 "_law_name" _ (spName K) := ok_name B D1 F__law_name
  have D6 : Def P w K mg base CX0 3 "_law_listed" _ (spListed K) := ok_listed B (D1.mono (by decide)) D3 F__law_listed
  have D7 : Def P w K mg base CX0 4 "_law_rows" _ spRows := ok_rows B (D1.mono (by decide)) D4 (D5.mono (by decide)) D6 F__law_rows
  have E1 : Def P w K mg base CX0 1 "_law_bad" _ spBad := ok_bad B F__law_bad
  have E2 : Def P w K mg base CX0 1 "_law_list_due" _ (spLD K) := ok_ld B F__law_list_due
  have E3 : Def P w K mg base CX0 2 "_law_step_due" _ (spSD K) := ok_sd B E1 E2 F__law_step_due
  have E4 : Def P w K mg base CX0 3 "_law_due" _ (spDueP K) := ok_dueP B (E1.mono (by decide)) E3 F__law_due
  have E5 : Def P w K mg base CX0 6 "_law_told" _ (spTold K) := ok_told B T_Plan m_Plan g_HeldError X_TooMany X_BadWord X_BadNumber X_UnknownName X_DoubleName X_EmptyStep kk DI_Plan F__law_told
  exact ok_law (k := 7) B (D2.mono (by decide)) (D7.mono (by decide)) (E5.mono (by decide)) (E4.mono (by decide)) (fun_mk l_law c_law k_law)
theorem walk {l : PySem.W.OpenLaw} {q : Program} {loose : List Str} {XP : (Str → Option Value) → Heap → Prop} {YP : World → Heap → Prop} {d : DefRec} {K : Params → PySem.W.Frag} (hn : l.most = some 63) (hdf : d.params.defaults = [])
    (hY : ∀ (w : World) (h : Heap), YP w h → (K w.params).In h)
    (F : ∀ (w : World) (mg : Str → Option Value) (fa : Addr) (h : Heap), (K w.params).In h → h.Ns mainGlobals mg → mg d.name = some (.ref fa) →
      ∃ fd : FuncData, (∀ (s : Shared) (u : Value), BindsTo s fd ⟨[u], []⟩ [("_law_script", u)]) ∧ ∀ base : Heap, (K w.params).In base → base.Ns mainGlobals mg → FnOk l.prog w (K w.params) mg base CX0 8 fa fd ["_law_script"] (spLaw (K w.params))) :
    PySem.W.WalkO q loose XP YP l.row.toRowW d [] (fun f vs => PySem.call f vs) :=
  L2.walk_of (n := 63) (k := 8) (x := "_law_script") (CX := fun _ => CX0) (sp := fun w => spLaw (K w.params)) hn (by decide) hdf ⟨rfl, by decide, by decide⟩ hY F (fun _ _ a ns hl _ hS => ⟨a, ns, rfl, hS, hl, fun _ => rfl⟩) fun _ _ _ _ _ z => z
end Held

open PySem PySem.W PyProof.Rows in
set_option maxRecDepth 100000 in
set_option maxHeartbeats 0 in
theorem PySem.Challenge.cw_heldsteps_k04_refusals_of_a_plan_holds : PySem.Challenge.rw_heldsteps_k04_refusals_of_a_plan.Holds := by
  w_on; o_law; k_head; (case hw => w_witness2)
  k_fill
  refine Held.walk (l := PySem.Challenge.rw_heldsteps_k04_refusals_of_a_plan) rfl rfl (fun w h Y => PySem.W.kIn_of Y) ?F
  case F =>
    intro w mg fa h KX G hmg
    refine' Held.all_mk KX G hmg (by decide +kernel) ?z_len ?z_range ?z_abs ?z_sum ?z_sorted ?z_isinstance ?z_zip ?z_enumerate ?z_reversed ?z_int ?z_str ?z_list ?z_tuple ?z_bool ?z_all ?z_any ?z_ValueError ?z_super ?a_LETTERS ?a_DIGITS ?a_MOST_SIGNS ?a_MOST_PLACES ?a_MOST_STEPS ?a_MOST_BEGIN ?a_is_word ?l_is_word ?c_is_word ?k_is_word ?a_check_word ?l_check_word ?c_check_word ?k_check_word ?a_check_number ?l_check_number ?c_check_number ?k_check_number ?a_check_names ?l_check_names ?c_check_names ?k_check_names ?a_in_order ?l_in_order ?c_in_order ?k_in_order ?a__law_box ?l__law_box ?c__law_box ?k__law_box ?a__law_next ?l__law_next ?c__law_next ?k__law_next ?a__law_word ?l__law_word ?c__law_word ?k__law_word ?a__law_words ?l__law_words ?c__law_words ?k__law_words ?a__law_name ?l__law_name ?c__law_name ?k__law_name ?a__law_listed ?l__law_listed ?c__law_listed ?k__law_listed ?a__law_rows ?l__law_rows ?c__law_rows ?k__law_rows ?a__law_bad ?l__law_bad ?c__law_bad ?k__law_bad ?a__law_list_due ?l__law_list_due ?c__law_list_due ?k__law_list_due ?a__law_step_due ?l__law_step_due ?c__law_step_due ?k__law_step_due ?a__law_due ?l__law_due ?c__law_due ?k__law_due ?a__law_told ?l__law_told ?c__law_told ?k__law_told ?a_law ?l_law ?c_law ?k_law ?aC_HeldError ?e_opq ?e_cg ?e_ct ?aC_BadWord ?xL_BadWord ?bm_BadWord ?sa_BadWord ?ga_BadWord ?gg_BadWord ?no_word_BadWord ?iC_BadWord ?tI_BadWord ?kC_BadWord ?ex_BadWord ?ve_BadWord ?ty_BadWord ?hd_BadWord ?sup_BadWord ?mro_BadWord ?su_BadWord ?ca_BadWord ?mo_BadWord ?l_BadWord ?c_BadWord ?lc_BadWord ?v2_BadWord ?fl_BadWord ?cc_BadWord ?aC_BadNumber ?xL_BadNumber ?bm_BadNumber ?sa_BadNumber ?ga_BadNumber ?gg_BadNumber ?no_number_BadNumber ?iC_BadNumber ?tI_BadNumber ?kC_BadNumber ?ex_BadNumber ?ve_BadNumber ?ty_BadNumber ?hd_BadNumber ?sup_BadNumber ?mro_BadNumber ?su_BadNumber ?ca_BadNumber ?mo_BadNumber ?l_BadNumber ?c_BadNumber ?lc_BadNumber ?v2_BadNumber ?fl_BadNumber ?cc_BadNumber ?aC_UnknownName ?xL_UnknownName ?bm_UnknownName ?sa_UnknownName ?ga_UnknownName ?gg_UnknownName ?no_name_UnknownName ?iC_UnknownName ?tI_UnknownName ?kC_UnknownName ?ex_UnknownName ?ve_UnknownName ?ty_UnknownName ?hd_UnknownName ?sup_UnknownName ?mro_UnknownName ?su_UnknownName ?ca_UnknownName ?mo_UnknownName ?l_UnknownName ?c_UnknownName ?lc_UnknownName ?v2_UnknownName ?fl_UnknownName ?cc_UnknownName ?aC_DoubleName ?xL_DoubleName ?bm_DoubleName ?sa_DoubleName ?ga_DoubleName ?gg_DoubleName ?no_name_DoubleName ?iC_DoubleName ?tI_DoubleName ?kC_DoubleName ?ex_DoubleName ?ve_DoubleName ?ty_DoubleName ?hd_DoubleName ?sup_DoubleName ?mro_DoubleName ?su_DoubleName ?ca_DoubleName ?mo_DoubleName ?l_DoubleName ?c_DoubleName ?lc_DoubleName ?v2_DoubleName ?fl_DoubleName ?cc_DoubleName ?aC_EmptyStep ?xL_EmptyStep ?bm_EmptyStep ?sa_EmptyStep ?ga_EmptyStep ?gg_EmptyStep ?no_name_EmptyStep ?iC_EmptyStep ?tI_EmptyStep ?kC_EmptyStep ?ex_EmptyStep ?ve_EmptyStep ?ty_EmptyStep ?hd_EmptyStep ?sup_EmptyStep ?mro_EmptyStep ?su_EmptyStep ?ca_EmptyStep ?mo_EmptyStep ?l_EmptyStep ?c_EmptyStep ?lc_EmptyStep ?v2_EmptyStep ?fl_EmptyStep ?cc_EmptyStep ?aC_TooMany ?xL_TooMany ?bm_TooMany ?sa_TooMany ?ga_TooMany ?gg_TooMany ?no_kind_TooMany ?no_limit_TooMany ?iC_TooMany ?tI_TooMany ?kC_TooMany ?ex_TooMany ?ve_TooMany ?ty_TooMany ?hd_TooMany ?sup_TooMany ?mro_TooMany ?su_TooMany ?ca_TooMany ?mo_TooMany ?l_TooMany ?c_TooMany ?lc_TooMany ?v2_TooMany ?fl_TooMany ?cc_TooMany ?aC_Plan ?pg_Plan ?hd_Plan ?po_Plan ?sa_Plan ?no_places_Plan ?no_begin_Plan ?no_taken_Plan ?no_given_Plan ?no_steps_Plan ?mk_Plan ?kC_Plan ?a_Plan___init__ ?i_Plan___init__ ?l_Plan___init__ ?c_Plan___init__ ?k_Plan___init__ ?a_Plan_put_step ?i_Plan_put_step ?l_Plan_put_step ?c_Plan_put_step ?k_Plan_put_step ?kH_TooMany ?kH_BadWord ?kH_DoubleName ?kH_BadNumber ?kH_EmptyStep ?kH_UnknownName ?xN_TooMany_BadWord ?xN_TooMany_DoubleName ?xN_TooMany_BadNumber ?xN_TooMany_EmptyStep ?xN_TooMany_UnknownName ?xN_BadWord_TooMany ?xN_BadWord_DoubleName ?xN_BadWord_BadNumber ?xN_BadWord_EmptyStep ?xN_BadWord_UnknownName ?xN_DoubleName_TooMany ?xN_DoubleName_BadWord ?xN_DoubleName_BadNumber ?xN_DoubleName_EmptyStep ?xN_DoubleName_UnknownName ?xN_BadNumber_TooMany ?xN_BadNumber_BadWord ?xN_BadNumber_DoubleName ?xN_BadNumber_EmptyStep ?xN_BadNumber_UnknownName ?xN_EmptyStep_TooMany ?xN_EmptyStep_BadWord ?xN_EmptyStep_DoubleName ?xN_EmptyStep_BadNumber ?xN_EmptyStep_UnknownName ?xN_UnknownName_TooMany ?xN_UnknownName_BadWord ?xN_UnknownName_DoubleName ?xN_UnknownName_BadNumber ?xN_UnknownName_EmptyStep
    (case z_len => k_is)
    (case z_range => k_is)
    (case z_abs => k_is)
    (case z_sum => k_is)
    (case z_sorted => k_is)
    (case z_isinstance => k_is)
    (case z_zip => k_is)
    (case z_enumerate => k_is)
    (case z_reversed => k_is)
    (case z_int => k_is)
    (case z_str => k_is)
    (case z_list => k_is)
    (case z_tuple => k_is)
    (case z_bool => k_is)
    (case z_all => k_is)
    (case z_any => k_is)
    (case z_ValueError => k_is)
    (case z_super => k_is)
    (case a_LETTERS => k_is)
    (case a_DIGITS => k_is)
    (case a_MOST_SIGNS => k_is)
    (case a_MOST_PLACES => k_is)
    (case a_MOST_STEPS => k_is)
    (case a_MOST_BEGIN => k_is)
    (case a_is_word => k_is)
    (case l_is_word => k_is)
    (case c_is_word => k_is)
    (case k_is_word => k_is)
    (case a_check_word => k_is)
    (case l_check_word => k_is)
    (case c_check_word => k_is)
    (case k_check_word => k_is)
    (case a_check_number => k_is)
    (case l_check_number => k_is)
    (case c_check_number => k_is)
    (case k_check_number => k_is)
    (case a_check_names => k_is)
    (case l_check_names => k_is)
    (case c_check_names => k_is)
    (case k_check_names => k_is)
    (case a_in_order => k_is)
    (case l_in_order => k_is)
    (case c_in_order => k_is)
    (case k_in_order => k_is)
    (case a__law_box => k_is)
    (case l__law_box => k_is)
    (case c__law_box => k_is)
    (case k__law_box => k_is)
    (case a__law_next => k_is)
    (case l__law_next => k_is)
    (case c__law_next => k_is)
    (case k__law_next => k_is)
    (case a__law_word => k_is)
    (case l__law_word => k_is)
    (case c__law_word => k_is)
    (case k__law_word => k_is)
    (case a__law_words => k_is)
    (case l__law_words => k_is)
    (case c__law_words => k_is)
    (case k__law_words => k_is)
    (case a__law_name => k_is)
    (case l__law_name => k_is)
    (case c__law_name => k_is)
    (case k__law_name => k_is)
    (case a__law_listed => k_is)
    (case l__law_listed => k_is)
    (case c__law_listed => k_is)
    (case k__law_listed => k_is)
    (case a__law_rows => k_is)
    (case l__law_rows => k_is)
    (case c__law_rows => k_is)
    (case k__law_rows => k_is)
    (case a__law_bad => k_is)
    (case l__law_bad => k_is)
    (case c__law_bad => k_is)
    (case k__law_bad => k_is)
    (case a__law_list_due => k_is)
    (case l__law_list_due => k_is)
    (case c__law_list_due => k_is)
    (case k__law_list_due => k_is)
    (case a__law_step_due => k_is)
    (case l__law_step_due => k_is)
    (case c__law_step_due => k_is)
    (case k__law_step_due => k_is)
    (case a__law_due => k_is)
    (case l__law_due => k_is)
    (case c__law_due => k_is)
    (case k__law_due => k_is)
    (case a__law_told => k_is)
    (case l__law_told => k_is)
    (case c__law_told => k_is)
    (case k__law_told => k_is)
    (case a_law => k_is)
    (case l_law => k_is)
    (case c_law => k_is)
    (case k_law => k_is)
    (case aC_HeldError => k_is)
    (case e_opq => k_is)
    (case e_cg => k_is)
    (case e_ct => k_is)
    (case aC_BadWord => k_is)
    (case xL_BadWord => k_is)
    (case bm_BadWord => rfl)
    (case sa_BadWord => k_is)
    (case ga_BadWord => k_is)
    (case gg_BadWord => k_is)
    (case no_word_BadWord => k_is)
    (case iC_BadWord => k_is)
    (case tI_BadWord => k_is)
    (case kC_BadWord => k_is)
    (case ex_BadWord => k_is)
    (case ve_BadWord => k_is)
    (case ty_BadWord => k_is)
    (case hd_BadWord => k_is)
    (case sup_BadWord => ks_is)
    (case mro_BadWord => k_is)
    (case su_BadWord => first | rfl | k_is)
    (case ca_BadWord => k_is)
    (case mo_BadWord => k_is)
    (case l_BadWord => k_is)
    (case c_BadWord => k_is)
    (case lc_BadWord => k_is)
    (case v2_BadWord => rfl)
    (case fl_BadWord => first | rfl | decide +kernel)
    (case cc_BadWord => k_is)
    (case aC_BadNumber => k_is)
    (case xL_BadNumber => k_is)
    (case bm_BadNumber => rfl)
    (case sa_BadNumber => k_is)
    (case ga_BadNumber => k_is)
    (case gg_BadNumber => k_is)
    (case no_number_BadNumber => k_is)
    (case iC_BadNumber => k_is)
    (case tI_BadNumber => k_is)
    (case kC_BadNumber => k_is)
    (case ex_BadNumber => k_is)
    (case ve_BadNumber => k_is)
    (case ty_BadNumber => k_is)
    (case hd_BadNumber => k_is)
    (case sup_BadNumber => ks_is)
    (case mro_BadNumber => k_is)
    (case su_BadNumber => first | rfl | k_is)
    (case ca_BadNumber => k_is)
    (case mo_BadNumber => k_is)
    (case l_BadNumber => k_is)
    (case c_BadNumber => k_is)
    (case lc_BadNumber => k_is)
    (case v2_BadNumber => rfl)
    (case fl_BadNumber => first | rfl | decide +kernel)
    (case cc_BadNumber => k_is)
    (case aC_UnknownName => k_is)
    (case xL_UnknownName => k_is)
    (case bm_UnknownName => rfl)
    (case sa_UnknownName => k_is)
    (case ga_UnknownName => k_is)
    (case gg_UnknownName => k_is)
    (case no_name_UnknownName => k_is)
    (case iC_UnknownName => k_is)
    (case tI_UnknownName => k_is)
    (case kC_UnknownName => k_is)
    (case ex_UnknownName => k_is)
    (case ve_UnknownName => k_is)
    (case ty_UnknownName => k_is)
    (case hd_UnknownName => k_is)
    (case sup_UnknownName => ks_is)
    (case mro_UnknownName => k_is)
    (case su_UnknownName => first | rfl | k_is)
    (case ca_UnknownName => k_is)
    (case mo_UnknownName => k_is)
    (case l_UnknownName => k_is)
    (case c_UnknownName => k_is)
    (case lc_UnknownName => k_is)
    (case v2_UnknownName => rfl)
    (case fl_UnknownName => first | rfl | decide +kernel)
    (case cc_UnknownName => k_is)
    (case aC_DoubleName => k_is)
    (case xL_DoubleName => k_is)
    (case bm_DoubleName => rfl)
    (case sa_DoubleName => k_is)
    (case ga_DoubleName => k_is)
    (case gg_DoubleName => k_is)
    (case no_name_DoubleName => k_is)
    (case iC_DoubleName => k_is)
    (case tI_DoubleName => k_is)
    (case kC_DoubleName => k_is)
    (case ex_DoubleName => k_is)
    (case ve_DoubleName => k_is)
    (case ty_DoubleName => k_is)
    (case hd_DoubleName => k_is)
    (case sup_DoubleName => ks_is)
    (case mro_DoubleName => k_is)
    (case su_DoubleName => first | rfl | k_is)
    (case ca_DoubleName => k_is)
    (case mo_DoubleName => k_is)
    (case l_DoubleName => k_is)
    (case c_DoubleName => k_is)
    (case lc_DoubleName => k_is)
    (case v2_DoubleName => rfl)
    (case fl_DoubleName => first | rfl | decide +kernel)
    (case cc_DoubleName => k_is)
    (case aC_EmptyStep => k_is)
    (case xL_EmptyStep => k_is)
    (case bm_EmptyStep => rfl)
    (case sa_EmptyStep => k_is)
    (case ga_EmptyStep => k_is)
    (case gg_EmptyStep => k_is)
    (case no_name_EmptyStep => k_is)
    (case iC_EmptyStep => k_is)
    (case tI_EmptyStep => k_is)
    (case kC_EmptyStep => k_is)
    (case ex_EmptyStep => k_is)
    (case ve_EmptyStep => k_is)
    (case ty_EmptyStep => k_is)
    (case hd_EmptyStep => k_is)
    (case sup_EmptyStep => ks_is)
    (case mro_EmptyStep => k_is)
    (case su_EmptyStep => first | rfl | k_is)
    (case ca_EmptyStep => k_is)
    (case mo_EmptyStep => k_is)
    (case l_EmptyStep => k_is)
    (case c_EmptyStep => k_is)
    (case lc_EmptyStep => k_is)
    (case v2_EmptyStep => rfl)
    (case fl_EmptyStep => first | rfl | decide +kernel)
    (case cc_EmptyStep => k_is)
    (case aC_TooMany => k_is)
    (case xL_TooMany => k_is)
    (case bm_TooMany => rfl)
    (case sa_TooMany => k_is)
    (case ga_TooMany => k_is)
    (case gg_TooMany => k_is)
    (case no_kind_TooMany => k_is)
    (case no_limit_TooMany => k_is)
    (case iC_TooMany => k_is)
    (case tI_TooMany => k_is)
    (case kC_TooMany => k_is)
    (case ex_TooMany => k_is)
    (case ve_TooMany => k_is)
    (case ty_TooMany => k_is)
    (case hd_TooMany => k_is)
    (case sup_TooMany => ks_is)
    (case mro_TooMany => k_is)
    (case su_TooMany => first | rfl | k_is)
    (case ca_TooMany => k_is)
    (case mo_TooMany => k_is)
    (case l_TooMany => k_is)
    (case c_TooMany => k_is)
    (case lc_TooMany => k_is)
    (case v2_TooMany => rfl)
    (case fl_TooMany => first | rfl | decide +kernel)
    (case cc_TooMany => k_is)
    (case aC_Plan => k_is)
    (case pg_Plan => k_is)
    (case hd_Plan => k_is)
    (case po_Plan => k_is)
    (case sa_Plan => k_is)
    (case no_places_Plan => k_is)
    (case no_begin_Plan => k_is)
    (case no_taken_Plan => k_is)
    (case no_given_Plan => k_is)
    (case no_steps_Plan => k_is)
    (case mk_Plan => k_is)
    (case kC_Plan => k_is)
    (case a_Plan___init__ => k_is)
    (case i_Plan___init__ => k_is)
    (case l_Plan___init__ => k_is)
    (case c_Plan___init__ => k_is)
    (case k_Plan___init__ => k_is)
    (case a_Plan_put_step => k_is)
    (case i_Plan_put_step => k_is)
    (case l_Plan_put_step => k_is)
    (case c_Plan_put_step => k_is)
    (case k_Plan_put_step => k_is)
    (case kH_TooMany => kit_is)
    (case kH_BadWord => kit_is)
    (case kH_DoubleName => kit_is)
    (case kH_BadNumber => kit_is)
    (case kH_EmptyStep => kit_is)
    (case kH_UnknownName => kit_is)
    (case xN_TooMany_BadWord => first | rfl | decide +kernel | k_is)
    (case xN_TooMany_DoubleName => first | rfl | decide +kernel | k_is)
    (case xN_TooMany_BadNumber => first | rfl | decide +kernel | k_is)
    (case xN_TooMany_EmptyStep => first | rfl | decide +kernel | k_is)
    (case xN_TooMany_UnknownName => first | rfl | decide +kernel | k_is)
    (case xN_BadWord_TooMany => first | rfl | decide +kernel | k_is)
    (case xN_BadWord_DoubleName => first | rfl | decide +kernel | k_is)
    (case xN_BadWord_BadNumber => first | rfl | decide +kernel | k_is)
    (case xN_BadWord_EmptyStep => first | rfl | decide +kernel | k_is)
    (case xN_BadWord_UnknownName => first | rfl | decide +kernel | k_is)
    (case xN_DoubleName_TooMany => first | rfl | decide +kernel | k_is)
    (case xN_DoubleName_BadWord => first | rfl | decide +kernel | k_is)
    (case xN_DoubleName_BadNumber => first | rfl | decide +kernel | k_is)
    (case xN_DoubleName_EmptyStep => first | rfl | decide +kernel | k_is)
    (case xN_DoubleName_UnknownName => first | rfl | decide +kernel | k_is)
    (case xN_BadNumber_TooMany => first | rfl | decide +kernel | k_is)
    (case xN_BadNumber_BadWord => first | rfl | decide +kernel | k_is)
    (case xN_BadNumber_DoubleName => first | rfl | decide +kernel | k_is)
    (case xN_BadNumber_EmptyStep => first | rfl | decide +kernel | k_is)
    (case xN_BadNumber_UnknownName => first | rfl | decide +kernel | k_is)
    (case xN_EmptyStep_TooMany => first | rfl | decide +kernel | k_is)
    (case xN_EmptyStep_BadWord => first | rfl | decide +kernel | k_is)
    (case xN_EmptyStep_DoubleName => first | rfl | decide +kernel | k_is)
    (case xN_EmptyStep_BadNumber => first | rfl | decide +kernel | k_is)
    (case xN_EmptyStep_UnknownName => first | rfl | decide +kernel | k_is)
    (case xN_UnknownName_TooMany => first | rfl | decide +kernel | k_is)
    (case xN_UnknownName_BadWord => first | rfl | decide +kernel | k_is)
    (case xN_UnknownName_DoubleName => first | rfl | decide +kernel | k_is)
    (case xN_UnknownName_BadNumber => first | rfl | decide +kernel | k_is)
    (case xN_UnknownName_EmptyStep => first | rfl | decide +kernel | k_is)
#print axioms PySem.Challenge.cw_heldsteps_k04_refusals_of_a_plan_holds