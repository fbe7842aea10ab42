import PyProof.Rows.All
import Wide.All
import OpenK.AllK
import Wide.FinOn
import PyProof.EqAt
import PyProof.EqKinds
import PyProof.TupleCall
import KE.KExcSuper
import KE.KExcIs
import HandS.ForMost
import HandS.ForExc
import HandS.ExcInit
import HandS.ExcField
import HandS.ExcIs
import HandS.Walk
import HandS.Wide
import HandS.EndBits
import HandS.Flow
import HandS.Codes
import HandS.IsInst
import HandS.TryMany
import PySem.Challenge.RW_heldsteps_k01_words_checked
set_option Elab.async false
set_option linter.all false
set_option maxRecDepth 100000
set_option maxHeartbeats 4000000
/-! An error class of the package: a class over a class over ValueError, whose __init__ says super().__init__(text) and then stores its arguments. -/
namespace PySem
namespace HErr
open PySem.W PySem.Calls PyProof.Rows PySem.HandSPX
abbrev FP := Str × Pos × Pos × Pos × Pos
def stF (q : FP) : Stmt := .Assign [.Attribute (.Name "self" q.2.1) q.1 q.2.2.1] (.Name q.1 q.2.2.2.1) q.2.2.2.2
def stS (msg : Expr) (p1 p2 p3 p4 p5 : Pos) : Stmt := .Expr (.Call (.Attribute (.Call (.Name "super" p1) [] [] p2) "__init__" p3) [msg] [] p4) p5
section
variable {prog : Program} {w : World} {A : Around} {E : Value → Shared → Prop} {s : Shared} {K : Frag} {C : Addr}
/-- what is known of the class for its stores -/
structure ClsK (K : Frag) (C : Addr) (fs : List Str) : Prop where
  cls : ∃ nm q N bs bm sn sub ab col dd k0 k1 k2 k3 k5, K.lookup C = some (excClassObj nm q C N bs bm true sn sub ab col dd k0 k1 k2 k3 k5 "ValueError.__new__") ∧ refsVE bm = true
  sa : findIn K (.ref C) "__setattr__" = some (some (.builtin "object.__setattr__"))
  noN : ∀ f ∈ fs, findIn K (.ref C) f = some none
theorem ClsK.data {fs : List Str} (T : ClsK K C fs) : ∃ cd, clsIn K C = some cd ∧ refsVE cd.mro = true ∧ cd.hasDict = true := by
  obtain ⟨nm, q, N, bs, bm, sn, sub, ab, col, dd, k0, k1, k2, k3, k5, hC, hbm⟩ := T.cls
  exact ⟨{ name := nm, bases := bs, mro := .ref C :: bm, ns := N, qualname := q, hasDict := true, slotNames := sn, subclasses := sub, abstract := ab, collection := col, hasDel := false }, by unfold clsIn; rw [hC] <;> rfl, hbm, rfl⟩
theorem ld {M : Model} {env : Env} {m : Str → Option Value} {x : Str} {pos : Pos} {v : Value} {Q : Value → Shared → Prop} (hn : s.heap.Ns env.locals m) (hv : m x = some v) (h : Q v s)
    (hk : env.scope.kind = .function) (hl : env.kindOf x = some .local) (hd : (x == ("__debug__" : Str)) = false) :
    wpAny M A (eval (.Name x pos) env) Q E s := wpAny_Name (wpAny_loadName_local hk hl hn hv h) hd
theorem swaps_attr (env : Env) (q : FP) : swapsWith (.Name q.1 q.2.2.2.1) (some (.Attribute (.Name "self" q.2.1) q.1 q.2.2.1)) q.2.2.2.2.line env = pure false := rfl
/-- the stores behind the first -/
theorem stores_old {names : List Str} (T : ClsK K C names) {env : Env} (hk : env.scope.kind = .function) (hself : env.kindOf "self" = some .local) {m : Str → Option Value} {x dx t0 : Addr} (hmx : m "self" = some (.ref x)) :
    ∀ (fs : List FP) (us : List Value) (vs : List L2.V) (hv : L2.Vals vs us) (hfn : ∀ q ∈ fs, q.1 ∈ names ∧ env.kindOf q.1 = some .local ∧ (q.1 == ("__debug__" : Str)) = false) (hm : Paired (fun (q : FP) u => m q.1 = some u) fs us) (fV : List (Str × L2.V)) (mA : Str → Option Value) (s : Shared) (Q : Flow → Shared → Prop),
      K.In s.heap → s.heap.Ns env.locals m → env.locals ≠ dx → K.lookup dx = none →
      s.heap.get? x = some { cls := .ref C, dict := some dx, data := .fields #[.ref t0, .none, .none, .none, .bool false, .none] } → s.heap.Ns1 dx mA → (∀ f, L2.RelO (fV.lookup f) (mA f)) → fV.length + fs.length ≤ 900 →
      (∀ h' tk mB, (∀ b o, b ≠ dx → s.heap.get? b = some o → h'.get? b = some o) → h'.Ns1 dx mB → (∀ f, L2.RelO ((((fs.map (·.1)).zip vs).reverse ++ fV).lookup f) (mB f)) → Q .next { s with heap := h', toks := tk }) →
      wpAny (model prog w) A (execs (fs.map stF) env) Q E s
  | [], us, vs, hv, hfn, hm, fV, mA, s, Q, X, hn, hL, hKd, hx, hns, hr, hl, hq => by
    refine wpAny_execs_nil ?_
    have := hq s.heap s.toks mA (fun _ _ _ e => e) hns (by simpa using hr)
    exact this
  | q :: fs, us, vs, hv, hfn, hm, fV, mA, s, Q, X, hn, hL, hKd, hx, hns, hr, hl, hq => by
    cases hm with
    | cons hu hm' =>
      rename_i u us'
      cases hv with
      | cons ru hv' =>
        rename_i v vs'
        obtain ⟨hmem, hloc, hdb⟩ := hfn q (List.mem_cons_self ..)
        obtain ⟨cd, hcd, hmro, hhd⟩ := T.data
        have hw := L2.within_of hr
        obtain ⟨hp, g, d, tk, os⟩ := s
        obtain ⟨oD, _, _, hoD, _, _⟩ := hns.count hw
        show wpAny _ _ (execs (stF q :: fs.map stF) env) _ _ _
        refine wpAny_execs_cons (plainObj_wpAny_Assign_Attribute ?_ (swaps_attr env q))
        refine ld hn hu (ld hn hmx ?_ hk hself (by decide)) hk hloc hdb
        refine set_plain X (ox := { cls := .ref C, dict := some dx, data := .fields #[.ref t0, .none, .none, .none, .bool false, .none] }) (od := some oD) ⟨hx, rfl, rfl, hoD⟩ T.sa ?_
        refine PySem.OEX.osa_old X hx hns hw (by rw [List.length_map]; omega) hcd hmro hhd (T.noN _ hmem) (fun h' tk' k hn' => ?_)
        have hxd : x ≠ dx := fun z => by
          obtain ⟨o, es, ep, e1, e2, _⟩ := hns
          rw [← z, hx] at e1
          cases e1
          cases e2
        refine stores_old T hk hself hmx fs us' vs' hv' (fun q' hq' => hfn q' (List.mem_cons_of_mem _ hq')) hm' ((q.1, v) :: fV) _ ⟨h', g, d, tk', os⟩ Q
          (fun a o e => k a o (fun z => by rw [z, hKd] at e; cases e) (X a o e)) ?_ hL hKd (k _ _ hxd hx) hn' (L2.relO_put ru hr) (by simp only [List.length_cons] at hl ⊢; omega) (fun h2 tk2 mB k2 hn2 r2 => ?_)
        · obtain ⟨o, es, ep, e1, e2⟩ := hn
          exact ⟨o, es, ep, k _ _ hL e1, e2⟩
        · refine hq h2 tk2 mB (fun b o hb e => k2 b o hb (k b o hb e)) hn2 fun f => ?_
          have := r2 f
          simpa using this
/-- all stores: from an exception without a dict -/
theorem stores_new {names : List Str} (T : ClsK K C names) {env : Env} (hk : env.scope.kind = .function) (hself : env.kindOf "self" = some .local) {m : Str → Option Value} {x t0 : Addr} (hmx : m "self" = some (.ref x))
    (q : FP) (fs : List FP) (us : List Value) (vs : List L2.V) (hv : L2.Vals vs us) (hfn : ∀ q' ∈ q :: fs, q'.1 ∈ names ∧ env.kindOf q'.1 = some .local ∧ (q'.1 == ("__debug__" : Str)) = false) (hm : Paired (fun (q : FP) u => m q.1 = some u) (q :: fs) us) (s : Shared) (Q : Flow → Shared → Prop)
    (X : K.In s.heap) (hn : s.heap.Ns env.locals m) (hLx : env.locals ≠ x) (hKx : K.lookup x = none)
    (hx : s.heap.get? x = some { cls := .ref C, data := .fields #[.ref t0, .none, .none, .none, .bool false, .none] }) (hl : fs.length ≤ 800)
    (hq : ∀ h' tk dx mB, (∀ b o, b ≠ x → s.heap.get? b = some o → h'.get? b = some o) → s.heap.objs.size ≤ dx → dx ≠ x → h'.get? x = some { cls := .ref C, dict := some dx, data := .fields #[.ref t0, .none, .none, .none, .bool false, .none] } →
      h'.Ns1 dx mB → (∀ f, L2.RelO (((((q :: fs).map (·.1)).zip vs).reverse).lookup f) (mB f)) → Q .next { s with heap := h', toks := tk }) :
    wpAny (model prog w) A (execs ((q :: fs).map stF) env) Q E s := by
  cases hm with
  | cons hu hm' =>
    rename_i u us'
    cases hv with
    | cons ru hv' =>
      rename_i v vs'
      obtain ⟨hmem, hloc, hdb⟩ := hfn q (List.mem_cons_self ..)
      obtain ⟨cd, hcd, hmro, hhd⟩ := T.data
      obtain ⟨hp, g, d, tk, os⟩ := s
      show wpAny _ _ (execs (stF q :: fs.map stF) env) _ _ _
      refine wpAny_execs_cons (plainObj_wpAny_Assign_Attribute ?_ (swaps_attr env q))
      refine ld hn hu (ld hn hmx ?_ hk hself (by decide)) hk hloc hdb
      refine set_plain X (ox := { cls := .ref C, dict := none, data := .fields #[.ref t0, .none, .none, .none, .bool false, .none] }) (od := none) ⟨hx, rfl, rfl, trivial⟩ T.sa ?_
      refine exc_osa X hx hcd hmro hhd (T.noN _ hmem) (fun h' tk' dx k dn dne hx' hn' => ?_)
      have hbig : ∀ {b : Addr} {o : Obj}, hp.get? b = some o → b ≠ dx := fun {b o} e => Nat.ne_of_lt (Nat.lt_of_lt_of_le (Heap.lt_size e) dn)
      have hKd : K.lookup dx = none := by
        cases e : K.lookup dx with
        | none => rfl
        | some o => exact absurd rfl (hbig (X _ _ e))
      have hLd : env.locals ≠ dx := by
        obtain ⟨o, es, ep, e1, e2⟩ := hn
        exact hbig e1
      refine stores_old T hk hself hmx fs us' vs' hv' (fun q' hq' => hfn q' (List.mem_cons_of_mem _ hq')) hm' [(q.1, v)] _ ⟨h', g, d, tk', os⟩ Q
        (fun a o e => k a o (fun z => by rw [z, hKx] at e; cases e) (X a o e)) ?_ hLd hKd hx' hn' (L2.relO_put (fs := []) ru fun _ => True.intro) (by simp only [List.length_cons, List.length_nil] at hl ⊢; omega) (fun h2 tk2 mB k2 hn2 r2 => ?_)
      · obtain ⟨o, es, ep, e1, e2⟩ := hn
        exact ⟨o, es, ep, k _ _ hLx e1, e2⟩
      · refine hq h2 tk2 dx mB (fun b o hb e => k2 b o (hbig e) (k b o hb e)) dn dne (k2 _ _ (Ne.symm dne) hx') hn2 fun f => ?_
        have := r2 f
        simpa using this
/-- what the written part says of the class at C and of its __init__, at fI: its name is cn, its fields fs -/
structure ErrTxt (P : Program) (K : Frag) (mg : Str → Option Value) (tm : Bool) (cn : Str) (C fI : Addr) (fs : List Str) : Prop extends ClsK K C fs where
  gC : mg cn = some (.ref C)
  ga : findIn K (.ref C) "__getattribute__" = some (some (.builtin "BaseException.__getattribute__"))
  gg : findIn K (.ref C) "__getattr__" = some none
  iC : findIn K (.ref C) "__init__" = some (some (.ref fI))
  tC : typeIn K (.ref fI) = some (.type "function")
  kC : keepIn K (.ref C) = true
  exC : subIn K (.ref C) (.type "BaseException") = some true
  veC : subIn K (.ref C) (.type "ValueError") = some true
  tyC : typeIn K (.ref C) = some (.type "type")
  hdC : hasDictIn K C = true
  sup : ks_superIn K C C "__init__" = some (some (.builtin "ValueError.__init__"))
  mro : mroIn K C (.ref C) = some true
  sub : subIn K (.ref C) (.ref C) = some true
  ca : findIn K (.ref C) "__class__" = some (some (.builtin "object.__class__"))
  cg : specialIn K (.builtin "object.__class__") "__get__" = some (some (.builtin "getset_descriptor.__get__"))
  ct : takesIn K (.builtin "object.__class__") = some true
  mo : mroIn K C (.type "object") = some true
  opq : nsIn K cStatics "thirdparty.any" = some none
  msup : mg "super" = none
  top : (P.main.scope.names.lookup ("super" : Str)).isSome = false
  fn : ∃ (oc : Value) (od : Option Addr) (qual : Str) (par : Arguments) (sc : Scope) (msg : Expr) (p1 p2 p3 p4 p5 : Pos) (fp : List FP) (dV kV doc pm : Value) (an : Option Addr) (cda cc : Addr) (ct : Value) (osl : Array (Option Value)) (ar : Arg)
      (ccl cl : Value) (cdd cld : Option Addr) (ccs csl : Array (Option Value)) (vs : Array Value) (file : Str) (tf : Tok),
    K.lookup fI = some ⟨oc, od, .func (ksFn "__init__" qual par (stS msg p1 p2 p3 p4 p5 :: fp.map stF) sc dV kV doc pm an (.ref cda) ct cc), osl⟩ ∧ codeIn K (.ref cda) qual = true ∧
    (par.posonlyargs ++ par.args).head? = some ar ∧ ar.arg = "self" ∧ K.lookup cda = some ⟨ccl, cdd, .fields vs, ccs⟩ ∧ vs[2]? = some (.str file tf) ∧ ((P.main.file : Str) == file) = true ∧
    K.lookup cc = some ⟨cl, cld, .cell (some (.ref C)), csl⟩ ∧ fp.map (·.1) = fs ∧ (p3.endLine == p4.line) = true ∧
    (sc.names.lookup ("super" : Str) = some .globalImplicit ∧ sc.names.lookup ("__class__" : Str) = some .free ∧ sc.names.lookup ("self" : Str) = some .local ∧ (∀ f ∈ fs, sc.names.lookup f = some .local) ∧ (∀ f ∈ fs, (f == ("__debug__" : Str)) = false) ∧ (∀ y ∈ sc.names, y.2 ≠ .cell)) ∧
    (sc.kind = .function ∧ sc.isGenerator = false ∧ sc.isCoroutine = false) ∧
    (∀ (s : Shared) (x : Value) (us : List Value), us.length = fs.length → BindsTo s (ksFn "__init__" qual par (stS msg p1 p2 p3 p4 p5 :: fp.map stF) sc dV kV doc pm an (.ref cda) ct cc) ⟨x :: us, []⟩ (("self", x) :: fs.zip us)) ∧
    (∀ (x : Value) (us : List Value), us.length = fs.length → ((("self" : Str), x) :: fs.zip us).reverse.lookup ("self" : Str) = some x ∧ Paired (fun f u => ((("self" : Str), x) :: fs.zip us).reverse.lookup f = some u) fs us) ∧
    ((tm = false ∧ ∃ (z : Str) (i : Nat) (p : Pos), msg = .Constant (.str z) i p) ∨ tm = true ∧ ∃ (z f : Str) (i : Nat) (p p' p'' : Pos), msg = .BinOp (.Constant (.str z) i p) .Add (.Name f p') p'' ∧ z.length ≤ 100 ∧ fs.head? = some f)
/-- what __init__ leaves of a fresh exception at x -/
structure InitEnd (h h' : Heap) (x C dx t1 : Addr) (fs : List Str) (vs : List L2.V) : Prop where
  keep : ∀ b o, b ≠ x → h.get? b = some o → h'.get? b = some o
  obj : h'.get? x = some { cls := .ref C, dict := some dx, data := .fields #[.ref t1, .none, .none, .none, .bool false, .none] }
  dbig : h.objs.size ≤ dx
  dne : dx ≠ x
  ns : ∃ mB, h'.Ns1 dx mB ∧ ∀ f, L2.RelO ((fs.zip vs).reverse.lookup f) (mB f)
/-- the built-in __init__, bound, called -/
theorem call_bw {h : Heap} {g : Array GenState} {d : Drawn} {t : Nat} {os : OsState} {u e t0 : Addr} {rest : List Value} {names : List Str} {Q : Value → Shared → Prop} (T : ClsK K C names) (X : K.In h)
    (he : h.get? e = some (excO C t0)) (hu : h.get? u = some (kxs_mw "ValueError.__init__" e)) (hrest : rest.length ≤ sizeLine)
    (hq : ∀ h' t1, (∀ b o, b ≠ e → h.get? b = some o → h'.get? b = some o) → h'.get? e = some (excO C t1) → Q .none ⟨h', g, d, t, os⟩) :
    wpAny (model prog w) A (call (.ref u) rest) Q E ⟨h, g, d, t, os⟩ := by
  obtain ⟨nm, q, N, bs, bm, sn, sub, ab, col, dd, k0, k1, k2, k3, k5, hC, hbm⟩ := T.cls
  refine wpAny_call (codeAny_of_tree ?_)
  show wpAny _ A.in1 (callAny (.ref u) ⟨rest, []⟩) _ _ _
  simp only [callAny]
  refine wpAny_bind (wpAny_load hu ?_)
  simp only [kxs_mw, show (Value.type "method-wrapper" == Value.type "method" || Value.type "method-wrapper" == Value.type "builtin_function_or_method" || Value.type "method-wrapper" == Value.type "method-wrapper") = true by decide, if_true]
  refine W.KFB.if_so (by decide) ?_
  refine wpAny_bind (PySem.W.check_bound_init F.excBase_ValueError.toExcCallFacts (X _ _ hC) he rfl ?_)
  refine wpAny_bind (wpAny_pure (wpAny_pure ?_))
  refine ⟨plainId_quiet F.excBase_ValueError.init.plain _, codeAny_builtin F.excBase_ValueError.initEntry ?_⟩
  exact exc_init_tree (cls := .ref C) (t0 := t0) (dv := none) (c2 := .none) (c3 := .none) (b4 := .bool false) he hrest fun h' k e' _ => hq h' _ k e'
/-- the text that super().__init__ gets -/
def MsgOk (msg : Expr) (env : Env) (m : Str → Option Value) : Prop := ∀ (prog : Program) (w : World) (A : Around) (E : Value → Shared → Prop) (s : Shared) (Q : Value → Shared → Prop), s.heap.Ns env.locals m → (∀ v tk, Q v { s with toks := tk }) → wpAny (model prog w) A (eval msg env) Q E s
/-- its __init__, called -/
theorem err_init {mg : Str → Option Value} {cn : Str} {fI : Addr} {fs : List Str} {tm : Bool} (T : ErrTxt prog K mg tm cn C fI fs) {x t0 : Addr} {us : List Value} {vs : List L2.V} {mb : Str → Option Value} {R : Result → Shared → Prop} (hv : L2.Vals vs us) (hl : us.length = fs.length) (hl8 : fs.length ≤ 8) (hne : fs ≠ [])
    (hmsg : tm = true → ∀ u, us.head? = some u → ∃ (z : Str) (t : Tok), u = .str z t ∧ z.length ≤ 1000)
    (X : K.In s.heap) (hlim : s.heap.NoLimit) (hg : s.heap.Ns mainGlobals mg) (hb : s.heap.Ns builtinsNs mb) (hbs : mb "super" = bootBuiltins "super") (hx : s.heap.get? x = some (excO C t0)) (hnx : K.lookup x = none) (hroom : A.depth < recursionLimit)
    (hq : ∀ h' tk dx t1, InitEnd s.heap h' x C dx t1 fs vs → R (.ok (.ret .none)) { s with heap := h', toks := tk }) :
    codeAny (model prog w) A (.call (.ref fI) ⟨.ref x :: us, []⟩) R s := by
  obtain ⟨oc, od, qual, par, sc, msg, p1, p2, p3, p4, p5, fp, dV, kV, doc, pm, an, cda, cc, ct, osl, ar, ccl, cl, cdd, cld, ccs, csl, avs, file, tf, ho, hcd, har, hself, hcda, hfile, hfe, hcell, hfp, hpos, ⟨nS, nC, nSelf, nF, nD, nCell⟩, ⟨kF, kG, kCo⟩, hbind, hlook, hm⟩ := T.fn
  obtain ⟨lself, lf⟩ := hlook (.ref x) us hl
  obtain ⟨cd, hcd2, hmro, hhd⟩ := T.toClsK.data
  obtain ⟨oD, hD1, hD2⟩ : ∃ oD, s.heap.get? C = some oD ∧ oD.data = .cls cd := by
    unfold clsIn at hcd2
    split at hcd2
    · rename_i c d cd' sl ho'
      cases hcd2
      exact ⟨_, X _ _ ho', rfl⟩
    · cases hcd2
  have hxC : x ≠ C := fun z => by
    rw [z, hD1] at hx
    cases hx
    cases hD2
  refine ks_codeAny_call_defAt (fd := ksFn "__init__" qual par (stS msg p1 p2 p3 p4 p5 :: fp.map stF) sc dV kV doc pm an (.ref cda) ct cc) (body := stS msg p1 p2 p3 p4 p5 :: fp.map stF) (binds := ("self", .ref x) :: fs.zip us) hroom (X _ _ ho) rfl hlim (codeRec_of X hcd) rfl (hbind s (.ref x) us hl) nCell ?_ (fun h₁ hns hk₁ => ?_) kCo kG kF
  · intro y hy
    rcases List.mem_cons.mp hy with rfl | hy
    · exact nSelf
    · exact nF _ (List.of_mem_zip hy).1
  have X₁ : K.In h₁ := X.keeps hk₁
  have hx₁ := hk₁ _ _ hx
  have hLx : s.heap.objs.size ≠ x := Nat.ne_of_gt (Heap.lt_size hx)
  have hMsg : MsgOk msg (ksEnv qual sc s.heap.objs.size fI (.ref cda) cc) (fun y => (((("self" : Str), Value.ref x) :: fs.zip us).reverse.lookup y)) := by
    intro prog w A E s1 Q hn1 hq1
    rcases hm with ⟨_, z, i, p, rfl⟩ | ⟨htm, z, f, i, p, p', p'', rfl, hz, hf⟩
    · exact wpAny_Constant_str (hq1 _ _)
    · cases lf with
      | nil => cases hf
      | cons h1 _ =>
        cases hf
        obtain ⟨z2, t2, rfl, hz2⟩ := hmsg htm _ rfl
        refine wpAny_BinOp (wpAny_Constant_str (ld (env := ksEnv qual sc s.heap.objs.size fI (.ref cda) cc) hn1 h1 ?_ kF (nF _ (List.mem_cons_self ..)) (nD _ (List.mem_cons_self ..))))
        exact add_str (fun t' tk => hq1 _ _) (by rw [sizeLine_eq]; omega)
  obtain ⟨kind, names, isG, isC, more⟩ := sc
  dsimp only at kF kG kCo nS nC nSelf nF nCell
  subst kF kG kCo
  obtain ⟨pl, he⟩ : ∃ pl, eval (.Call (.Attribute (.Call (.Name "super" p1) [] [] p2) "__init__" p3) [msg] [] p4) (ksEnv qual ⟨.function, names, false, false, more⟩ s.heap.objs.size fI (.ref cda) cc) = (do
      let ov ← attributeBase (.Call (.Name "super" p1) [] [] p2) "__init__" (ksEnv qual ⟨.function, names, false, false, more⟩ s.heap.objs.size fI (.ref cda) cc) (eval (.Call (.Name "super" p1) [] [] p2) (ksEnv qual ⟨.function, names, false, false, more⟩ s.heap.objs.size fI (.ref cda) cc))
      standAt p3.atName
      let (f, first) ← holding [ov] (getMethod ov "__init__" pl)
      callWith p4 f first (backTo p4 (starEach [msg] (ksEnv qual ⟨.function, names, false, false, more⟩ s.heap.objs.size fI (.ref cda) cc))) []) := by
    have hmp : ∀ o env, methodCallPos true o env p3 p4 = pure p4 := fun o env => by
      unfold methodCallPos
      rw [hpos] <;> rfl
    have key : ∀ ms : Expr, methodCallForm ([ms].length + ([] : List Keyword).length) (backTo p4 (starEach [ms] (ksEnv qual ⟨.function, names, false, false, more⟩ s.heap.objs.size fI (.ref cda) cc))) (backToKw p4 (keywordEach [] (ksEnv qual ⟨.function, names, false, false, more⟩ s.heap.objs.size fI (.ref cda) cc))) = true →
        eval (.Call (.Attribute (.Call (.Name "super" p1) [] [] p2) "__init__" p3) [ms] [] p4) (ksEnv qual ⟨.function, names, false, false, more⟩ s.heap.objs.size fI (.ref cda) cc) = (do
      let ov ← attributeBase (.Call (.Name "super" p1) [] [] p2) "__init__" (ksEnv qual ⟨.function, names, false, false, more⟩ s.heap.objs.size fI (.ref cda) cc) (eval (.Call (.Name "super" p1) [] [] p2) (ksEnv qual ⟨.function, names, false, false, more⟩ s.heap.objs.size fI (.ref cda) cc))
      standAt p3.atName
      let (f, first) ← holding [ov] (getMethod ov "__init__" (do return (← importBound (.Call (.Name "super" p1) [] [] p2) (ksEnv qual ⟨.function, names, false, false, more⟩ s.heap.objs.size fI (.ref cda) cc)).getD true))
      callWith p4 f first (backTo p4 (starEach [ms] (ksEnv qual ⟨.function, names, false, false, more⟩ s.heap.objs.size fI (.ref cda) cc))) []) := by
      intro ms hf
      show (do
        let ov ← attributeBase (.Call (.Name "super" p1) [] [] p2) "__init__" (ksEnv qual ⟨.function, names, false, false, more⟩ s.heap.objs.size fI (.ref cda) cc) (eval (.Call (.Name "super" p1) [] [] p2) (ksEnv qual ⟨.function, names, false, false, more⟩ s.heap.objs.size fI (.ref cda) cc))
        standAt p3.atName
        methodCall (.Call (.Name "super" p1) [] [] p2) "__init__" p3 p4 (ksEnv qual ⟨.function, names, false, false, more⟩ s.heap.objs.size fI (.ref cda) cc) ov ([ms].length + ([] : List Keyword).length) (backTo p4 (starEach [ms] (ksEnv qual ⟨.function, names, false, false, more⟩ s.heap.objs.size fI (.ref cda) cc))) (backToKw p4 (keywordEach [] (ksEnv qual ⟨.function, names, false, false, more⟩ s.heap.objs.size fI (.ref cda) cc)))) = _
      unfold methodCall
      simp only [hf, hmp, pure_bind]
      rfl
    rcases hm with ⟨_, z, i, p, rfl⟩ | ⟨htm, z, f, i, p, p', p'', rfl, hz, hf⟩
    · exact ⟨_, key _ rfl⟩
    · exact ⟨_, key _ rfl⟩
  have hst : starEach [msg] (ksEnv qual ⟨.function, names, false, false, more⟩ s.heap.objs.size fI (.ref cda) cc) = [(false, eval msg (ksEnv qual ⟨.function, names, false, false, more⟩ s.heap.objs.size fI (.ref cda) cc))] := by
    rcases hm with ⟨_, z, i, p, rfl⟩ | ⟨htm, z, f, i, p, p', p'', rfl, hz, hf⟩
    · rfl
    · rfl
  -- super().__init__(..)
  refine ks_wpAt_execs_cons (ks_wpAt_Expr_any (ks_wpAt_MethodCall (pl := pl) ?_ he))
  refine ks_wpAt_super_base (env := ksEnv qual ⟨.function, names, false, false, more⟩ s.heap.objs.size fI (.ref cda) cc) nS nC (by decide) rfl (hk₁ _ _ (X _ _ ho)) rfl har rfl (X₁ _ _ hcda) rfl hfile hfe T.top ?_
  refine ks_loadName_global rfl nS (loadGlobal_builtin (env := ksEnv qual ⟨.function, names, false, false, more⟩ s.heap.objs.size fI (.ref cda) cc) (hg.keeps hk₁) T.msup (hb.keeps hk₁) (hbs.trans (by first | boot_by_name | rfl | kernel_rfl)) ⟨rfl, ?_⟩)
  refine wpAny_loadName_free rfl nC rfl ⟨_, X₁ _ _ hcell, rfl⟩ ?_
  rw [hself]
  refine wpAny_loadName_local rfl nSelf hns lself ?_
  refine ks_wpAny_isType_cls (hk₁ _ _ hD1) hD2 ⟨rfl, ?_⟩
  refine ks_wpAny_call_super (hk₁ _ _ hD1) hD2 hx₁ rfl (fun c e => by cases e) (looks_mroIn X₁ T.mro) (fun h₂ eso k₂ => ?_)
  have X₂ : K.In h₂ := X₁.keeps k₂
  have hx₂ := k₂ _ _ hx₁
  have hnsU : ∀ {h : Heap}, (∀ b o, h₁.get? b = some o → h.get? b = some o) → h.Ns s.heap.objs.size (fun y => ((("self" : Str), Value.ref x) :: fs.zip us).reverse.lookup y) := fun {h} k => hns.keeps k
  have hsup := T.sup
  unfold ks_superIn at hsup
  rw [hcd2] at hsup
  refine kxs_getMethod kxs_ValueError (K := K) eso (looks_opaque X₂ T.opq) (l₀ := cd.mro) ?_ rfl X₂ hsup ?_ hxC (by decide) ?_
  · exact fun A Q E s k q => wpAny_bind ((looks_clsIn X₂ hcd2) A _ E s k (wpAny_pure q))
  · exact (InstAt.type (od := none) ⟨hx₂, rfl, rfl, trivial⟩).andThen (looks_subIn X₂ T.veC)
  · have k₃ : ∀ b o, h₂.get? b = some o → (h₂.push (kxs_mw "ValueError.__init__" x)).get? b = some o := fun b o e => Heap.get?_push_of_some _ e
    show wpAny _ _ (callWith p4 (.ref h₂.objs.size) [] (backTo p4 (starEach [msg] (ksEnv qual ⟨.function, names, false, false, more⟩ s.heap.objs.size fI (.ref cda) cc))) []) _ _ _
    rw [hst]
    refine kxs_callWith (i := "ValueError.__init__") (x := x) rfl (evalArgs_plain ?_)
    refine spliced_cons ?_
    refine hMsg prog w _ _ _ _ (hnsU fun b o e => k₃ b o (k₂ b o e)) (fun v tk => spliced_nil ⟨?_, ?_⟩)
    · exact Heap.get?_push_at rfl rfl
    · refine call_bw T.toClsK (X₂.keeps k₃) (k₃ _ _ hx₂) (Heap.get?_push_at rfl rfl) (by rw [sizeLine_eq]; exact (by decide : 1 ≤ 16777216)) (fun h₄ t1 k₄ hx₄ => ?_)
      have hsz : ∀ {b : Addr} {o : Obj}, s.heap.get? b = some o → b ≠ x → h₄.get? b = some o := fun {b o} e hb => k₄ b o hb (k₃ b o (k₂ b o (hk₁ b o e)))
      have hL4 : h₄.Ns s.heap.objs.size (fun y => ((("self" : Str), Value.ref x) :: fs.zip us).reverse.lookup y) := by
        obtain ⟨o, es, ep, e1, e2⟩ := hns
        exact ⟨o, es, ep, k₄ _ _ hLx (k₃ _ _ (k₂ _ _ e1)), e2⟩
      cases fp with
      | nil => exact absurd hfp.symm (by simpa using hne)
      | cons q fp =>
        have hP : Paired (fun (q : FP) u => ((("self" : Str), Value.ref x) :: fs.zip us).reverse.lookup q.1 = some u) (q :: fp) us := by
          rw [← hfp] at lf
          have key : ∀ (m : Str → Option Value) (l : List FP) (us : List Value), Paired (fun f u => m f = some u) (l.map (·.1)) us → Paired (fun (q : FP) u => m q.1 = some u) l us := by
            intro m l
            induction l with
            | nil => intro us h; cases h; exact .nil
            | cons a l ih => intro us h; cases h with | cons h1 h2 => exact .cons h1 (ih _ h2)
          have := key (fun y => ((("self" : Str), Value.ref x) :: fs.zip us).reverse.lookup y) (q :: fp) us (by simpa [hfp] using lf)
          exact this
        show wpAt _ _ _ (execs ((q :: fp).map stF) _) _ _ _
        refine wpAt_of_wpAny (stores_new (m := fun y => (((("self" : Str), Value.ref x) :: fs.zip us).reverse.lookup y)) T.toClsK (env := ksEnv qual ⟨.function, names, false, false, more⟩ s.heap.objs.size fI (.ref cda) cc) rfl nSelf lself q fp us vs hv (fun q' hq' => ?_) hP ⟨h₄, s.gens, s.drawn, tk, s.os⟩ _ ((fun a o e => hsz (X a o e) (fun z => by rw [z, hnx] at e; cases e))) hL4 hLx hnx hx₄ ?_ (fun h' tk' dx mB k5 dn dne hx5 hn5 r5 => ?_))
        · have hin : q'.1 ∈ fs := by rw [← hfp]; exact List.mem_map_of_mem hq'
          exact ⟨hin, nF _ hin, nD _ hin⟩
        · have : (q :: fp).length = fs.length := by rw [← hfp, List.length_map]
          simp only [List.length_cons] at this
          omega
        · refine hq h' tk' dx t1 ⟨fun b o hb e => k5 b o hb (hsz e hb), hx5, ?_, dne, mB, hn5, ?_⟩
          · refine Nat.le_trans ?_ dn
            have z1 : s.heap.objs.size < h₄.objs.size := by
              obtain ⟨o, es, ep, e1, e2⟩ := hL4
              exact Heap.lt_size e1
            exact Nat.le_of_lt z1
          · intro f
            have := r5 f
            rw [hfp] at this
            exact this
/-- a made error -/
structure OwnMade (h h' : Heap) (e C d : Addr) (fs : List Str) (vs : List L2.V) : Prop where
  keep : ∀ b o, h.get? b = some o → h'.get? b = some o
  new : h.objs.size ≤ e
  obj : ∃ oe as, h'.get? e = some oe ∧ oe.cls = .ref C ∧ oe.dict = some d ∧ oe.data = .fields as ∧ as[1]? = some .none
  dbig : h.objs.size ≤ d
  dne : d ≠ e
  ns : ∃ mB, h'.Ns1 d mB ∧ ∀ f, L2.RelO ((fs.zip vs).reverse.lookup f) (mB f)
theorem err_made {mg : Str → Option Value} {cn : Str} {fI : Addr} {fs : List Str} {tm : Bool} (T : ErrTxt prog K mg tm cn C fI fs) {us : List Value} {vs : List L2.V} {mb : Str → Option Value} {R : Result → Shared → Prop} (hv : L2.Vals vs us) (hl : us.length = fs.length) (hl8 : fs.length ≤ 8) (hne : fs ≠ [])
    (hmsg : tm = true → ∀ u, us.head? = some u → ∃ (z : Str) (t : Tok), u = .str z t ∧ z.length ≤ 1000)
    (X : K.In s.heap) (hlim : s.heap.NoLimit) (hg : s.heap.Ns mainGlobals mg) (hb : s.heap.Ns builtinsNs mb) (hbs : mb "super" = bootBuiltins "super") (hroom : A.depth + 1 < recursionLimit)
    (hq : ∀ h' tk e d, OwnMade s.heap h' e C d fs vs → R (.ok (.ret (.ref e))) { s with heap := h', toks := tk }) :
    codeAny (model prog w) A (.call (.ref C) ⟨us, []⟩) R s := by
  obtain ⟨nm, q, N, bs, bm, sn, sub, ab, col, dd, k0, k1, k2, k3, k5, hC, hbm⟩ := T.cls
  obtain ⟨hp, g, dr, tk, os⟩ := s
  have k : ∀ b o, hp.get? b = some o → ((hp.push (kdv_tup us)).push (excO C hp.objs.size)).get? b = some o := fun b o e => Heap.get?_push_of_some _ (Heap.get?_push_of_some _ e)
  have hget : ((hp.push (kdv_tup us)).push (excO C hp.objs.size)).get? (hp.objs.size + 1) = some (excO C hp.objs.size) := by heap_get
  have hnx : K.lookup (hp.objs.size + 1) = none := by
    cases e : K.lookup (hp.objs.size + 1) with
    | none => rfl
    | some o =>
      have z : hp.get? (hp.objs.size + 1) = some o := X _ _ e
      exact absurd (Nat.lt_of_succ_lt (Heap.lt_size z)) (Nat.lt_irrefl _)
  refine call_own F.excBase_ValueError (fun X => refsVE_contains X bm hbm) (X _ _ hC) (looks_findIn X T.iC) (fun self => bind_fn X self T.tC) (by rw [sizeLine_eq]; omega) ?_
  refine err_init (s := ⟨(hp.push (kdv_tup us)).push (excO C hp.objs.size), g, dr, tk, os⟩) T hv hl hl8 hne hmsg (X.keeps k) (hlim.keeps k) (hg.keeps k) (hb.keeps k) hbs hget hnx ?_ fun h' tk' dx t1 ⟨k', hx, dn, dne, hns⟩ => ?_
  · show A.depth + 1 < recursionLimit
    exact hroom
  · have old : ∀ b o, hp.get? b = some o → h'.get? b = some o := fun b o e => k' b o (Nat.ne_of_lt (Nat.lt_succ_of_lt (Heap.lt_size e))) (k b o e)
    have z : hp.objs.size + 1 + 1 ≤ dx := by
      first
        | (simpa only [Heap.size_push] using dn)
        | exact dn
        | (have q := dn; rw [Heap.size_push, Heap.size_push] at q; exact q)
    exact ⟨rfl, hq h' tk' (hp.objs.size + 1) dx ⟨old, Nat.le_succ _, ⟨_, _, hx, rfl, rfl, rfl, rfl⟩, Nat.le_trans (Nat.le_trans (Nat.le_succ _) (Nat.le_succ _)) z, dne, hns⟩⟩
end
end HErr
end PySem
namespace L2
open PySem PySem.Spec PyProof.Rows PySem.HErr
section
variable {X : Cx} {C fI : Addr} {cn : Str} {fs : List Str} {tm : Bool}
/-- C(e, ..), an error of the package -/
def tMkE (tm : Bool) (C : Addr) (fs : List Str) (ta : TA) : St → Hp → XK → Prop := fun σ H Q => ta σ H fun vs H1 => vs.length = fs.length ∧ (tm = true → ∃ (z : Str) (r : List V), vs = .str z :: r ∧ z.length ≤ 1000) ∧
  ∀ d, H1 d = none → Q (.ref C) (some d) (upd H1 d (.xd (fs.zip vs).reverse))
theorem pmk_err {a : Expr} {as : List Expr} {ta : TA} {p pos : Pos} {k : Nat} (T : ErrTxt X.prog X.K X.mg tm cn C fI fs) (hr : Room k X.A) (ha : PA X (a :: as) ta) (hl8 : fs.length ≤ 8) (hne : fs ≠ []) (hg : Gl X cn := by rfl) (hdb : (cn == ("__debug__" : Str)) = false := by decide)
    (he : starEach (a :: as) X.env = (false, eval a X.env) :: starEach as X.env := by rfl) (hpl : (backTo pos (starEach as X.env)).any (·.1) = false := by rfl) :
    PMk X (.Call (.Name cn p) (a :: as) [] pos) (tMkE tm C fs ta) := by
  intro pins s σ H Q I h
  refine wpAny_Call_Name_kw (ld_glob I hg T.gC ?_ hdb)
  refine PySem.W.callWith_K (h₀ := X.base) I.ok.mod.kin T.kC (thn (ha.run pos pins s σ H _ I h) fun us s1 hh => ?_) he hpl
  obtain ⟨vs, H1, I1, r1, hl, hz, q1⟩ := hh
  refine ⟨I1.kIn, ?_⟩
  show wpAny _ _ (call (.ref C) us) _ _ _
  have hlim := I1.nolimit
  obtain ⟨mb, hb1, hb2⟩ := I1.mod.blt
  have hgl := I1.mod.glob.keeps I1.bk
  have hbl := hb1.keeps I1.bk
  obtain ⟨hp, g, dr, tk, os⟩ := s1
  refine wpAny_call (err_made (mb := mb) T r1 (r1.length.symm.trans hl) hl8 hne ?_ I1.kIn hlim hgl hbl (hb2 "super" (by decide)) (by have := hr.dp; omega) fun h' tk' e d M => ?_)
  · intro ht u hu
    obtain ⟨z, r, rfl, hz5⟩ := hz ht
    cases r1 with
    | cons r0 _ =>
      cases hu
      obtain ⟨t, rfl⟩ := r0
      exact ⟨z, t, rfl, hz5⟩
  show MkP X pins σ Q (.ref e) ⟨h', g, dr, tk', os⟩
  obtain ⟨oe, fv, hoe, hc, hd, hdat, h1⟩ := M.obj
  obtain ⟨mB, hns, hrel⟩ := M.ns
  obtain ⟨G', g1, g2⟩ := restrict h' fun b => decide (b ≠ e)
  have gk : ∀ b, b ≠ e → G'.get? b = h'.get? b := fun b hb => g1 b (decide_eq_true hb)
  have ge : G'.get? e = none := g2 e (by simp)
  have old : ∀ b o, hp.get? b = some o → G'.get? b = some o := fun b o q => (gk b (Nat.ne_of_lt (Nat.lt_of_lt_of_le (Heap.lt_size q) M.new))).trans (M.keep b o q)
  have ob : ObjOk X.prog X.w (upd H1 d (.xd (fs.zip vs).reverse)) G' d (.xd (fs.zip vs).reverse) :=
    ⟨mB, hns.at (fun o q => (gk d M.dne).trans q), hrel⟩
  have J : Inv X pins σ (upd H1 d (.xd (fs.zip vs).reverse)) ⟨G', g, dr, tk', os⟩ := I1.laid (t' := tk') old M.dbig ob
  refine ⟨e, oe, fv, ⟨G', g, dr, tk', os⟩, _, .ref C, some d, rfl, J, fun b o q => ?_, ge, hoe, ⟨hc, hd⟩, hdat, h1, ?_, rfl, I1.bare, raises_own T.exC T.tyC, q1 d (I1.hok.fresh M.dbig)⟩
  · by_cases hb : b = e
    · have q' : G'.get? b = some o := q
      rw [hb, ge] at q'; cases q'
    · exact (gk b hb).symm.trans q
  · rw [upd_ne (Ne.symm M.dne)]
    exact I1.hok.fresh M.new
/-- raise C(e, ..) -/
def tRaiseE (tm : Bool) (C : Addr) (fs : List Str) (W : WX) (ta : TA) : TS := fun _ σ H => tMkE tm C fs ta σ H fun cls d H' => W cls d σ H'
theorem ps_raiseE {a : Expr} {as : List Expr} {ta : TA} {W : WX} {p pos pos2 : Pos} {k : Nat} (hc : X.calm = true) (T : ErrTxt X.prog X.K X.mg tm cn C fI fs) (hr : Room k X.A) (tk : Takes X W) (ha : PA X (a :: as) ta) (hl8 : fs.length ≤ 8 := by decide) (hne : fs ≠ [] := by decide) (hg : Gl X cn := by rfl) (hdb : (cn == ("__debug__" : Str)) = false := by decide)
    (he : starEach (a :: as) X.env = (false, eval a X.env) :: starEach as X.env := by rfl) (hpl : (backTo pos (starEach as X.env)).any (·.1) = false := by rfl) :
    PS X (.Raise (some (.Call (.Name cn p) (a :: as) [] pos)) none pos2) (tRaiseE tm C fs W ta) := ps_raise hc tk (pmk_err T hr ha hl8 hne hg hdb he hpl)
/-- an own class in an except clause -/
theorem _root_.PySem.HErr.ErrTxt.xf {P : Program} {K : PySem.W.Frag} {mg : Str → Option Value} (T : ErrTxt P K mg tm cn C fI fs) : XfC K C := ⟨T.ga, T.gg, T.exC, T.hdC⟩
theorem _root_.PySem.HErr.ErrTxt.te {P : Program} {K : PySem.W.Frag} {mg : Str → Option Value} (T : ErrTxt P K mg tm cn C fI fs) : PySem.W.exmOne K (.ref C) (.ref C) = some true := PySem.W.exm_ref T.exC T.hdC T.tyC T.sub
/-- what isinstance asks of the class of an error -/
structure IsC (K : PySem.W.Frag) (D : Addr) : Prop where
  hg : PySem.W.findIn K (.ref D) "__getattribute__" = some (some (.builtin "BaseException.__getattribute__"))
  hk : PySem.W.findIn K (.ref D) "__getattr__" = some none
  hs : PySem.W.subIn K (.ref D) (.type "BaseException") = some true
  hd : PySem.W.hasDictIn K D = true
  ha : PySem.W.findIn K (.ref D) "__class__" = some (some (.builtin "object.__class__"))
  hn : PySem.W.specialIn K (.builtin "object.__class__") "__get__" = some (some (.builtin "getset_descriptor.__get__"))
  ht : PySem.W.takesIn K (.builtin "object.__class__") = some true
  hm : PySem.W.mroIn K D (.type "object") = some true
theorem _root_.PySem.HErr.ErrTxt.isC {P : Program} {K : PySem.W.Frag} {mg : Str → Option Value} (T : ErrTxt P K mg tm cn C fI fs) : IsC K C := ⟨T.ga, T.gg, T.exC, T.hdC, T.ca, T.cg, T.ct, T.mo⟩
/-- isinstance(e, c), e the error (with fields) that the suite holds -/
def rIsD (K : PySem.W.Frag) (cls : Value) (d : Option Addr) (a : Addr) : List V → Hp → VK → Prop := fun xs H Q => ∃ (D dd : Addr) (fs : List (Str × V)) (c : V) (cv : Value) (b : Bool), cls = .ref D ∧ IsC K D ∧ d = some dd ∧ H dd = some (.xd fs) ∧ xs = [.ref a, c] ∧ (∀ u, RelV c u → u = cv) ∧ PySem.W.kitOne K (.ref D) cv = some b ∧ Q (.bl b) H
theorem call_isD {a : Addr} {oe : Obj} {cls : Value} {d : Option Addr} {pn : List (Addr × Obj)} (hz : Zc cls d oe) (hf : ∃ vs, oe.data = .fields vs) : CallR (X.suite a ((a, oe) :: pn)) (.builtin "isinstance") (rIsD X.K cls d a) := by
  intro pins s σ H xs us Q I r h
  obtain ⟨D, dd, fs, c, cv, b, rfl, C, rfl, hdd, rfl, hcv, e, q⟩ := h
  cases r with
  | cons rx rr =>
    cases rr with
    | cons rt rr =>
      cases rr
      cases rx
      have ec := hcv _ rt
      subst ec
      obtain ⟨hget, _⟩ := I.pin (a, oe) (List.mem_append.mpr (.inl List.mem_cons_self))
      obtain ⟨vs, hv⟩ := hf
      have hx : ObjOk X.prog X.w H s.heap dd (.xd fs) := I.hok dd _ hdd
      obtain ⟨mA, hns, hr⟩ := hx
      obtain ⟨od, ho, hl⟩ := lookIn_ns hns
      have J : PySem.W.InstAt s.heap a oe D (some od) := ⟨hget, hz.1, by unfold PySem.W.notCls; rw [hv] <;> rfl, by rw [hz.2]; exact ho⟩
      have hcl : (PySem.W.clsIn X.K D).isSome = true := by
        obtain ⟨cd, hc, _⟩ := PySem.W.any_some C.hd
        rw [hc]
        rfl
      exact PySem.W.kia_one (PySem.W.kitx_exc hcl C.hg C.hk C.hs C.ha C.hn C.ht C.hm) I.kIn J e (fun z => nomatch z) fun tk => ⟨.bl b, H, I.kept (t' := tk) fun _ _ z => z, rfl, q⟩
end
end L2

set_option Elab.async false
set_option linter.all false
set_option maxRecDepth 100000
set_option maxHeartbeats 4000000
/-! Defs by their names; the built-ins that the texts use; a module's constants. -/
namespace L2
open PySem PySem.Spec PyProof.Rows PySem.HErr
/-- none of these built-ins is shadowed -/
structure Bl (mg : Str → Option Value) : Prop where
  len : mg "len" = none
  range : mg "range" = none
  abs : mg "abs" = none
  sum : mg "sum" = none
  sorted : mg "sorted" = none
  isinstance : mg "isinstance" = none
  zip : mg "zip" = none
  enumerate : mg "enumerate" = none
  reversed : mg "reversed" = none
  int' : mg "int" = none
  str' : mg "str" = none
  list' : mg "list" = none
  tuple' : mg "tuple" = none
  bool' : mg "bool" = none
  all' : mg "all" = none
  any' : mg "any" = none
  ValueError : mg "ValueError" = none
/-- the module's name x is the value v -/
def Glo (mg : Str → Option Value) (x : Str) (v : V) : Prop := ∃ u, mg x = some u ∧ RelV v u
/-- a def of the text stands where its name says -/
structure Src (K : PySem.W.Frag) (mg : Str → Option Value) (x : Str) (st : Stmt) (ps : List Str) : Prop where
  ex : ∃ f fd, Fun K x x st f fd ∧ mg x = some (.ref f) ∧ Binds K fd ps []
/-- the def x keeps the promise sp -/
structure Def (P : Program) (w : World) (K : PySem.W.Frag) (mg : Str → Option Value) (base : Heap) (CX : CXT) (k : Nat) (x : Str) (ps : List Str) (sp : Sp) : Prop where
  ex : ∃ f fd, mg x = some (.ref f) ∧ PySem.W.keepIn K (.ref f) = true ∧ Binds K fd ps [] ∧ FnOk P w K mg base CX k f fd ps sp
section
variable {P : Program} {w : World} {K : PySem.W.Frag} {mg : Str → Option Value} {base : Heap} {CX : CXT} {x : Str} {st : Stmt} {N ps : List Str} {k : Nat} {sp : Sp}
theorem Def.mono {j : Nat} (D : Def P w K mg base CX j x ps sp) (h : j ≤ k) : Def P w K mg base CX k x ps sp := by
  obtain ⟨f, fd, h1, h2, h3, h4⟩ := D.ex
  exact ⟨f, fd, h1, h2, h3, h4.mono h⟩
theorem Def.imp {sp' : Sp} (D : Def P w K mg base CX k x ps sp) (h : ∀ vs H Q E, sp' vs H Q E → sp vs H Q E) : Def P w K mg base CX k x ps sp' := by
  obtain ⟨f, fd, h1, h2, h3, h4⟩ := D.ex
  exact ⟨f, fd, h1, h2, h3, h4.imp h⟩
theorem Src.ok (F : Src K mg x st ps) (S : FnScope N ps (defScope st)) (len : ∀ vs H Q E, sp vs H Q E → vs.length = ps.length)
    (hbody : ∀ (f : Addr) (cdv : Value) (A : Around) (outer : List Env) (s : Shared) (H : Hp) (vs : List V) (Q : VK) (E : XK), Room k (A.deeper (envOfC x (defScope st) s.heap.objs.size f cdv)) → sp vs H Q E →
      ∃ t, PSs (cxOf CX0 P w K mg base N x (defScope st) f cdv A outer s H E).nox (defBody st) t ∧ t { nx := fun _ H' => Q .non H', rt := Q } (start N vs) H) : Def P w K mg base CX0 (k + 1) x ps sp := by
  obtain ⟨f, fd, h1, h2, h3⟩ := F.ex
  exact ⟨f, fd, h2, h1.kp, h3, h1.ok S len (hbody f)⟩
theorem Src.okX (F : Src K mg x st ps) (S : FnScope N ps (defScope st)) (len : ∀ vs H Q E, sp vs H Q E → vs.length = ps.length)
    (hbody : ∀ (f : Addr) (cdv : Value) (A : Around) (outer : List Env) (s : Shared) (H : Hp) (vs : List V) (Q : VK) (E : XK), Room k (A.deeper (envOfC x (defScope st) s.heap.objs.size f cdv)) → sp vs H Q E →
      ∃ t, PSs (cxOf (L2.CX P w) P w K mg base N x (defScope st) f cdv A outer s H E) (defBody st) t ∧ t { nx := fun _ H' => Q .non H', rt := Q } (start N vs) H) : Def P w K mg base (L2.CX P w) (k + 1) x ps sp := by
  obtain ⟨f, fd, h1, h2, h3⟩ := F.ex
  exact ⟨f, fd, h2, h1.kp, h3, h1.okX S len (hbody f)⟩
end
section
variable {X : Cx} {CX : CXT} {k : Nat} {ps : List Str} {sp : Sp} {x : Str} {p pos : Pos} {e : Expr} {es : List Expr} {t : TA}
theorem pe_def {E : XK} (D : Def X.prog X.w X.K X.mg X.base CX k x ps sp) (hr : Room k X.A) (hx : Passes CX X E) (ha : PA X (e :: es) t) (hg : Gl X x := by rfl)
    (hdb : (x == ("__debug__" : Str)) = false := by decide) (he : starEach (e :: es) X.env = (false, eval e X.env) :: starEach es X.env := by rfl) (hpl : (backTo pos (starEach es X.env)).any (·.1) = false := by rfl) :
    PE X (.Call (.Name x p) (e :: es) [] pos) (tCall sp [] E t) := by
  obtain ⟨f, fd, h1, h2, h3, h4⟩ := D.ex
  exact pe_call h4 hr hg h1 h2 h3 .nil hx ha hdb he hpl
theorem pe_def0 {E : XK} (D : Def X.prog X.w X.K X.mg X.base CX k x ps sp) (hr : Room k X.A) (hx : Passes CX X E) (hg : Gl X x := by rfl)
    (hdb : (x == ("__debug__" : Str)) = false := by decide) : PE X (.Call (.Name x p) [] [] pos) (tCall sp [] E tNil) := by
  obtain ⟨f, fd, h1, h2, h3, h4⟩ := D.ex
  exact pe_call0 h4 hr hg h1 h2 h3 .nil hx hdb
theorem pe_defS {E : St → XK} (D : Def X.prog X.w X.K X.mg X.base CX k x ps sp) (hr : Room k X.A) (hx : ∀ σ, PassesAt CX X σ (E σ)) (ha : PA X (e :: es) t) (hg : Gl X x := by rfl)
    (hdb : (x == ("__debug__" : Str)) = false := by decide) (he : starEach (e :: es) X.env = (false, eval e X.env) :: starEach es X.env := by rfl) (hpl : (backTo pos (starEach es X.env)).any (·.1) = false := by rfl) :
    PE X (.Call (.Name x p) (e :: es) [] pos) (tCallS sp E t) := by
  obtain ⟨f, fd, h1, h2, h3, h4⟩ := D.ex
  exact pe_callS h4 hr hg h1 h2 h3 hx ha hdb he hpl
theorem pe_glo {v : V} (h : Glo X.mg x v) (hg : Gl X x := by rfl) (hd : (x == ("__debug__" : Str)) = false := by decide) : PE X (.Name x p) (tC v) := by
  obtain ⟨u, h1, h2⟩ := h
  exact pe_glob hg h1 h2 hd
end
/-- a comprehension without an if; with one -/
theorem yes_if {σ : St} {H : Hp} {A B : Hp → Prop} (h : A H) : tYes σ H (fun b H3 => if b = true then A H3 else B H3) := by
  show (if true = true then A H else B H)
  rw [if_pos rfl]
  exact h
/-! ### heaps -/
theorem same_upd {H : Hp} {p : Addr} {o : HO} (h : H p = none) : Same H (upd H p o) := fun b x e => by
  rw [upd_ne (ne_of_none e h)]
  exact e
theorem upd_twice {H : Hp} {b : Addr} {o o' : HO} : upd (upd H b o) b o' = upd H b o' := by
  funext a
  by_cases ha : a = b
  · rw [ha, upd_same, upd_same]
  · rw [upd_ne ha, upd_ne ha, upd_ne ha]
theorem upd_self' {H : Hp} {b : Addr} {o : HO} (h : H b = some o) : upd H b o = H := by
  funext a
  by_cases ha : a = b
  · rw [ha, upd_same, h]
  · rw [upd_ne ha]
/-- all that was tracked is as it was, but for what stands at b -/
def SameB (b : Addr) (H H' : Hp) : Prop := ∀ a o, a ≠ b → H a = some o → H' a = some o
theorem SameB.refl (b : Addr) (H : Hp) : SameB b H H := fun _ _ _ h => h
theorem SameB.trans {b : Addr} {H H1 H2 : Hp} (x : SameB b H H1) (y : SameB b H1 H2) : SameB b H H2 := fun a o n h => y a o n (x a o n h)
theorem Same.b {b : Addr} {H H' : Hp} (h : Same H H') : SameB b H H' := fun a o _ e => h a o e
theorem SameB.upd {b : Addr} {H H' : Hp} {o : HO} (h : SameB b H H') : SameB b H (upd H' b o) := fun a u n e => by
  rw [upd_ne n]
  exact h a u n e
theorem SameB.new {b p : Addr} {H H' : Hp} {o : HO} (h : SameB b H H') (n : H' p = none) : SameB b H (L2.upd H' p o) := fun a u hn e => by
  have := h a u hn e
  rw [upd_ne (ne_of_none this n)]
  exact this
/-- an object that H does not know may change -/
theorem SameB.mut {b p : Addr} {H H' : Hp} {o : HO} (h : SameB b H H') (n : H p = none) : SameB b H (L2.upd H' p o) := fun a u hn e => by
  rw [upd_ne (ne_of_none e n)]
  exact h a u hn e
theorem SameB.free {b l : Addr} {H H' : Hp} (e : SameB b H H') (hb : l ≠ b) (h : H' l = none) : H l = none := by
  cases q : H l with
  | none => rfl
  | some o =>
    rw [e l o hb q] at h
    cases h
theorem SameB.seq {K : PySem.W.Frag} {b : Addr} {H H' : Hp} {a : Addr} {xs : List V} (e : SameB b H H') (n : a ≠ b) (h : SqL K H a xs) : SqL K H' a xs := by
  rcases h with (h | ⟨o, h⟩) | h
  · exact .inl (.inl (e _ _ n h))
  · exact .inl (.inr ⟨o, e _ _ n h⟩)
  · exact .inr h
/-- an error of the class at C with these fields is what E wants, whatever was made meanwhile -/
def Rais (E : XK) (H : Hp) (C : Addr) (fs : List (Str × V)) : Prop := ∀ H' d, Same H H' → H d = none → H' d = some (.xd fs) → E (.ref C) (some d) H'
theorem Rais.go {E : XK} {H H' : Hp} {C d : Addr} {fs : List (Str × V)} (h : Rais E H C fs) (sm : Same H H') (n : H' d = none) : E (.ref C) (some d) (upd H' d (.xd fs)) :=
  h _ d (sm.trans (same_upd n)) (sm.free n) upd_same
/-- the law's box of draws stands at b -/
structure Box (H : Hp) (b : Addr) : Prop where
  ex : ∃ (l : Addr) (ns : List Int) (i c r : Int), H b = some (.lst [.int i, .int c, .int r, .ref l]) ∧ H l = some (.lst (ns.map V.int)) ∧ 0 ≤ i ∧ l ≠ b
theorem Box.keep {H H' : Hp} {b : Addr} (h : Box H b) (e : Same H H') : Box H' b := by
  obtain ⟨l, ns, i, c, r, h1, h2, h3, h4⟩ := h.ex
  exact ⟨l, ns, i, c, r, e _ _ h1, e _ _ h2, h3, h4⟩
theorem Box.new {H : Hp} {b p : Addr} {o : HO} (h : Box H b) (n : H p = none) : Box (upd H p o) b := h.keep (same_upd n)
theorem Box.lst {H : Hp} {b : Addr} (h : Box H b) : ∃ xs, H b = some (.lst xs) := by
  obtain ⟨l, ns, i, c, r, h1, _⟩ := h.ex
  exact ⟨_, h1⟩
/-- _law_next(box, many) -/
def spNext : Sp := fun vs H Q _ => ∃ (b : Addr) (many : Int), vs = [.ref b, .int many] ∧ 0 < many ∧ many ≤ 10 ^ 40 ∧ Box H b ∧ ∀ (n : Int) (o : HO), 0 ≤ n → n < many → Box (upd H b o) b → Q (.int n) (upd H b o)
/-- _law_box(script) -/
def spBox (K : PySem.W.Frag) : Sp := fun vs H Q _ => ∃ (a : Addr) (ns : List Int), vs = [.ref a] ∧ SqL K H a (ns.map V.int) ∧ ns.length ≤ 63 ∧ ∀ (b : Addr) (H' : Hp), H b = none → Same H H' → Box H' b → Q (.ref b) H'
/-! ### plain data: no bools, no dicts -/
/-- a text of ASCII signs -/
def Asc (z : Str) : Prop := ∀ c ∈ z.cps.toList, c < 128
theorem Asc.ok {z : Str} (h : Asc z) : PyData.strOk z = true := by
  unfold PyData.strOk
  rw [← Array.all_toList, List.all_eq_true]
  intro c hc
  have := h c hc
  exact decide_eq_true (by omega)
theorem Asc.app {x y : Str} (hx : Asc x) (hy : Asc y) : Asc (x ++ y) := by
  intro c hc
  rw [Str.cps_append, Array.toList_append] at hc
  rcases List.mem_append.mp hc with h | h
  · exact hx c h
  · exact hy c h
theorem Asc.one {c : Nat} (h : c < 128) : Asc ⟨#[c]⟩ := by
  intro d hd
  have : d = c := by simpa using hd
  omega
theorem Asc.cut {z : Str} (h : Asc z) (lo hi : Option Int) : Asc (cutS z lo hi) := by
  intro c hc
  unfold cutS at hc
  exact h c (List.mem_of_mem_drop (List.mem_of_mem_take (by simpa using hc)))
mutual
def nb : PyData → Bool
  | .none => true
  | .int _ => true
  | .str x => PyData.strOk x
  | .list xs => nbAll xs
  | .tuple xs => nbAll xs
  | .bool _ => false
  | .dict _ => false
def nbAll : List PyData → Bool
  | [] => true
  | x :: xs => nb x && nbAll xs
end
mutual
theorem lay_nb : ∀ d : PyData, nb d = true → PyData.canLay0 d = true
  | .none, _ => by simp only [PyData.canLay0]
  | .int _, _ => by simp only [PyData.canLay0]
  | .str x, h => by simp only [nb] at h; simp only [PyData.canLay0, h]
  | .list xs, h => by simp only [nb] at h; simp only [PyData.canLay0]; exact lay_nbAll xs h
  | .tuple xs, h => by simp only [nb] at h; simp only [PyData.canLay0]; exact lay_nbAll xs h
  | .bool _, h => by simp only [nb] at h; cases h
  | .dict _, h => by simp only [nb] at h; cases h
theorem lay_nbAll : ∀ ds : List PyData, nbAll ds = true → PyData.canLayAll0 ds = true
  | [], _ => by simp only [PyData.canLayAll0]
  | x :: xs, h => by
    simp only [nbAll, Bool.and_eq_true] at h
    simp only [PyData.canLayAll0, lay_nb x h.1, lay_nbAll xs h.2, Bool.and_self]
end
mutual
theorem eqv_nb : ∀ d e : PyData, nb d = true → nb e = true → (PyData.eqv d e = true ↔ d = e)
  | .none, e, _, he => by cases e <;> simp [PyData.eqv]
  | .int i, e, _, he => by cases e <;> simp [PyData.eqv, nb] at he ⊢
  | .str x, e, _, he => by cases e <;> simp [PyData.eqv]
  | .list xs, e, hd, he => by
    cases e with
    | list ys =>
      simp only [nb] at hd he
      simp only [PyData.eqv, eqv_nbAll xs ys hd he, PyData.list.injEq]
    | _ => simp [PyData.eqv]
  | .tuple xs, e, hd, he => by
    cases e with
    | tuple ys =>
      simp only [nb] at hd he
      simp only [PyData.eqv, eqv_nbAll xs ys hd he, PyData.tuple.injEq]
    | _ => simp [PyData.eqv]
  | .bool _, _, h, _ => by simp only [nb] at h; cases h
  | .dict _, _, h, _ => by simp only [nb] at h; cases h
theorem eqv_nbAll : ∀ ds es : List PyData, nbAll ds = true → nbAll es = true → (PyData.eqvAll ds es = true ↔ ds = es)
  | [], [], _, _ => by simp [PyData.eqvAll]
  | [], _ :: _, _, _ => by simp [PyData.eqvAll]
  | _ :: _, [], _, _ => by simp [PyData.eqvAll]
  | x :: xs, y :: ys, hd, he => by
    simp only [nbAll, Bool.and_eq_true] at hd he
    simp only [PyData.eqvAll, Bool.and_eq_true, eqv_nb x y hd.1 he.1, eqv_nbAll xs ys hd.2 he.2, List.cons.injEq]
end
theorem eqv_dec {d e : PyData} (hd : nb d = true) (he : nb e = true) : (PyData.eqv d e = true) = (d = e) := propext (eqv_nb d e hd he)
theorem eqv_self {d : PyData} (hd : nb d = true) : PyData.eqv d d = true := (eqv_nb d d hd hd).mpr rfl
theorem eqv_ne {d e : PyData} (hd : nb d = true) (he : nb e = true) (h : d ≠ e) : PyData.eqv d e = false := by
  cases q : PyData.eqv d e with
  | false => rfl
  | true => exact absurd ((eqv_nb d e hd he).mp q) h
theorem nbAll_of : ∀ {ds : List PyData}, (∀ d ∈ ds, nb d = true) → nbAll ds = true
  | [], _ => rfl
  | d :: ds, h => by
    show (nb d && nbAll ds) = true
    rw [h d (List.mem_cons_self ..), nbAll_of fun x hx => h x (List.mem_cons_of_mem _ hx)]
    rfl
theorem depthAll_le {n : Nat} : ∀ {ds : List PyData}, (∀ d ∈ ds, d.depth ≤ n) → PyData.depthAll ds ≤ n
  | [], _ => by simp [PyData.depthAll]
  | d :: ds, h => by
    simp only [PyData.depthAll]
    exact Nat.max_le.mpr ⟨h d (List.mem_cons_self ..), depthAll_le fun x hx => h x (List.mem_cons_of_mem _ hx)⟩
theorem shaped_of {d : PyData} (h : nb d = true) (hd : d.depth ≤ 64) : SeqAt.shaped d = true := by
  unfold SeqAt.shaped
  rw [lay_nb d h, decide_eq_true hd]
  rfl
/-- a list of texts as data -/
abbrev dStrs (l : List Str) : PyData := .list (l.map .str)
theorem dpall_strs {K : PySem.W.Frag} {H : Hp} : ∀ l : List Str, DpAll K H (l.map V.str) (l.map PyData.str)
  | [] => .nil
  | _ :: l => .cons (.str _) (dpall_strs l)
theorem nb_strs {l : List Str} (h : ∀ z ∈ l, Asc z) : nbAll (l.map PyData.str) = true := nbAll_of fun d hd => by
  obtain ⟨z, hz, rfl⟩ := List.mem_map.mp hd
  show PyData.strOk z = true
  exact (h z hz).ok
theorem depth_strs (l : List Str) : PyData.depthAll (l.map PyData.str) ≤ 0 := depthAll_le fun d hd => by
  obtain ⟨z, hz, rfl⟩ := List.mem_map.mp hd
  simp [PyData.depth]
/-! ### from the written part to the facts above -/
section
variable {P : Program} {K : PySem.W.Frag} {h : Heap} {mg : Str → Option Value}
theorem src_mk {x : Str} {st : Stmt} {ps : List Str} {f : Addr} {oc : Value} {od an : Option Addr} {osl : Array (Option Value)} {kV doc pm cdv ct : Value} (X : K.In h) (G : h.Ns mainGlobals mg)
    (a : PySem.W.nsIn K mainGlobals x = some (some (.ref f))) (l : K.lookup f = some ⟨oc, od, .func (PySem.W.fnOf x x (defArgs st) (defBody st) (defScope st) .none kV doc pm an cdv ct), osl⟩)
    (c : PySem.W.codeIn K cdv x = true) (k : PySem.W.keepIn K (.ref f) = true)
    (hb : ∀ (kV doc pm : Value) (an : Option Addr) (cdv ct : Value) (us : List Value), us.length = ps.length → bindArgs (PySem.W.fnOf x x (defArgs st) (defBody st) (defScope st) .none kV doc pm an cdv ct) ⟨us, []⟩ = pure (ps.zip us)) : Src K mg x st ps :=
  ⟨f, _, fun_mk l c k, PySem.W.mg_of X G a, (fun_mk (st := st) l c k).binds hb⟩
theorem glo_str {x z : Str} {t : Tok} (X : K.In h) (G : h.Ns mainGlobals mg) (a : PySem.W.nsIn K mainGlobals x = some (some (.str z t))) : Glo mg x (.str z) := ⟨_, PySem.W.mg_of X G a, t, rfl⟩
theorem glo_int {x : Str} {i : Int} {t : Tok} (X : K.In h) (G : h.Ns mainGlobals mg) (a : PySem.W.nsIn K mainGlobals x = some (some (.int i t))) : Glo mg x (.int i) := ⟨_, PySem.W.mg_of X G a, t, rfl⟩
theorem glo_ref {x : Str} {a : Addr} (X : K.In h) (G : h.Ns mainGlobals mg) (e : PySem.W.nsIn K mainGlobals x = some (some (.ref a))) : Glo mg x (.ref a) := ⟨_, PySem.W.mg_of X G e, rfl⟩
theorem err_mk {cn qual : Str} {tm : Bool} {C fI : Addr} {fs : List Str} {st : Stmt} {nm q : Str} {N : Addr} {bs bm : List Value} {sn : List Str} {sub : List Value} {ab : Bool} {col : Option Bool} {dd : Option Addr} {m0 m1 m2 m3 m5 : Option Value}
    {oc : Value} {od an : Option Addr} {osl : Array (Option Value)} {kV doc pm ct : Value} {cda cc : Addr} {ccl cl : Value} {cdd cld : Option Addr} {ccs csl : Array (Option Value)} {vs : Array Value} {file : Str} {tf : Tok} {msg : Expr} {p1 p2 p3 p4 p5 : Pos} {fp : List FP} {ar : Arg}
    (X : K.In h) (G : h.Ns mainGlobals mg) (aC : PySem.W.nsIn K mainGlobals cn = some (some (.ref C))) (aS : PySem.W.nsIn K mainGlobals "super" = some none)
    (xL : K.lookup C = some (excClassObj nm q C N bs bm true sn sub ab col dd m0 m1 m2 m3 m5 "ValueError.__new__")) (hbm : PySem.HandSPX.refsVE bm = true)
    (sa : PySem.W.findIn K (.ref C) "__setattr__" = some (some (.builtin "object.__setattr__"))) (ga : PySem.W.findIn K (.ref C) "__getattribute__" = some (some (.builtin "BaseException.__getattribute__"))) (gg : PySem.W.findIn K (.ref C) "__getattr__" = some none)
    (noN : ∀ f ∈ fs, PySem.W.findIn K (.ref C) f = some none)
    (iC : PySem.W.findIn K (.ref C) "__init__" = some (some (.ref fI))) (tI : PySem.W.typeIn K (.ref fI) = some (.type "function")) (kC : PySem.W.keepIn K (.ref C) = true)
    (exC : PySem.W.subIn K (.ref C) (.type "BaseException") = some true) (veC : PySem.W.subIn K (.ref C) (.type "ValueError") = some true) (tyC : PySem.W.typeIn K (.ref C) = some (.type "type")) (hdC : PySem.W.hasDictIn K C = true)
    (sup : PySem.W.ks_superIn K C C "__init__" = some (some (.builtin "ValueError.__init__"))) (mro : PySem.W.mroIn K C (.ref C) = some true) (su : PySem.W.subIn K (.ref C) (.ref C) = some true)
    (ca : PySem.W.findIn K (.ref C) "__class__" = some (some (.builtin "object.__class__"))) (cg : PySem.W.specialIn K (.builtin "object.__class__") "__get__" = some (some (.builtin "getset_descriptor.__get__"))) (ct' : PySem.W.takesIn K (.builtin "object.__class__") = some true)
    (mo : PySem.W.mroIn K C (.type "object") = some true) (opq : PySem.W.nsIn K cStatics "thirdparty.any" = some none)
    (top : (P.main.scope.names.lookup ("super" : Str)).isSome = false)
    (l : K.lookup fI = some ⟨oc, od, .func (PySem.W.ksFn "__init__" qual (defArgs st) (defBody st) (defScope st) .none kV doc pm an (.ref cda) ct cc), osl⟩) (c : PySem.W.codeIn K (.ref cda) qual = true)
    (lc : K.lookup cda = some ⟨ccl, cdd, .fields vs, ccs⟩) (hv2 : vs[2]? = some (.str file tf)) (hfile : ((P.main.file : Str) == file) = true) (lcc : K.lookup cc = some ⟨cl, cld, .cell (some (.ref C)), csl⟩)
    (hbody : defBody st = stS msg p1 p2 p3 p4 p5 :: fp.map stF) (har : ((defArgs st).posonlyargs ++ (defArgs st).args).head? = some ar) (hself : ar.arg = "self") (hfp : fp.map (·.1) = fs) (hpos : (p3.endLine == p4.line) = true)
    (h1 : (defScope st).names.lookup ("super" : Str) = some .globalImplicit) (h2 : (defScope st).names.lookup ("__class__" : Str) = some .free) (h3 : (defScope st).names.lookup ("self" : Str) = some .local) (h4 : ∀ f ∈ fs, (defScope st).names.lookup f = some .local) (h5 : ∀ f ∈ fs, (f == ("__debug__" : Str)) = false) (h6 : ∀ y ∈ (defScope st).names, y.2 ≠ .cell)
    (h7 : (defScope st).kind = .function) (h8 : (defScope st).isGenerator = false) (h9 : (defScope st).isCoroutine = false)
    (hbind : ∀ (kV doc pm : Value) (an : Option Addr) (cda : Addr) (ct : Value) (cc : Addr) (s : Shared) (x : Value) (us : List Value), us.length = fs.length → BindsTo s (PySem.W.ksFn "__init__" qual (defArgs st) (defBody st) (defScope st) .none kV doc pm an (.ref cda) ct cc) ⟨x :: us, []⟩ (("self", x) :: fs.zip us))
    (hlook : ∀ (x : Value) (us : List Value), us.length = fs.length → ((("self" : Str), x) :: fs.zip us).reverse.lookup ("self" : Str) = some x ∧ Paired (fun f u => ((("self" : Str), x) :: fs.zip us).reverse.lookup f = some u) fs us)
    (hmsg : (tm = false ∧ ∃ (z : Str) (i : Nat) (p : Pos), msg = .Constant (.str z) i p) ∨ tm = true ∧ ∃ (z f : Str) (i : Nat) (p p' p'' : Pos), msg = .BinOp (.Constant (.str z) i p) .Add (.Name f p') p'' ∧ z.length ≤ 100 ∧ fs.head? = some f) :
    ErrTxt P K mg tm cn C fI fs where
  cls := ⟨nm, q, N, bs, bm, sn, sub, ab, col, dd, m0, m1, m2, m3, m5, xL, hbm⟩
  sa := sa
  noN := noN
  gC := PySem.W.mg_of X G aC
  ga := ga
  gg := gg
  iC := iC
  tC := tI
  kC := kC
  exC := exC
  veC := veC
  tyC := tyC
  hdC := hdC
  sup := sup
  mro := mro
  sub := su
  ca := ca
  cg := cg
  ct := ct'
  mo := mo
  opq := opq
  msup := PySem.W.mg_none_of X G aS
  top := top
  fn := by
    rw [hbody] at l
    refine ⟨oc, od, qual, defArgs st, defScope st, msg, p1, p2, p3, p4, p5, fp, .none, kV, doc, pm, an, cda, cc, ct, osl, ar, ccl, cl, cdd, cld, ccs, csl, vs, file, tf, l, c, har, hself, lc, hv2, hfile, lcc, hfp, hpos, ⟨h1, h2, h3, h4, h5, h6⟩, ⟨h7, h8, h9⟩, ?_, hlook, hmsg⟩
    intro s x us hl
    have := hbind kV doc pm an cda ct cc s x us hl
    rw [hbody] at this
    exact this
end
end L2

set_option Elab.async false
set_option linter.all false
set_option maxRecDepth 100000
set_option maxHeartbeats 4000000

namespace Held
open PySem PySem.Spec PyProof.Rows L2 PySem.HErr

def topS (i : Nat) : Stmt := PySem.Challenge.pw_heldsteps_k01_words_checked.main.body.getD i (.Pass ⟨0, 0, 0, 0⟩)
/-! ## box -/
section
variable {P : Program} {w : World} {K : PySem.W.Frag} {mg : Str → Option Value} {base : Heap}
abbrev s__law_next : Stmt := topS 13
theorem sc__law_next : FnScope ["_law_box_here", "_law_many", "_law_cell", "_law_value", "_law_mixed"] ["_law_box_here", "_law_many"] (defScope s__law_next) := ⟨rfl, rfl, rfl, by decide +kernel, rfl, by decide +kernel, by decide +kernel⟩
theorem fmod_box {x m : Int} (h : 0 < m) : 0 ≤ x.fmod m ∧ x.fmod m < m := ⟨Int.fmod_nonneg_of_pos _ h, Int.fmod_lt_of_pos _ h⟩
theorem big200 {m : Int} (h0 : 0 < m) (h : m ≤ 10 ^ 40) : m.natAbs < 2 ^ 200 := by
  have e : (10 : Int) ^ 40 < 2 ^ 200 := by decide
  have e2 : ((2 ^ 200 : Nat) : Int) = 2 ^ 200 := by decide
  omega
theorem ok_next {k : Nat} (B : Bl mg) (F : Src K mg "_law_next" s__law_next ["_law_box_here", "_law_many"]) : Def P w K mg base CX0 (k + 1) "_law_next" ["_law_box_here", "_law_many"] spNext := by
  refine F.ok sc__law_next (fun vs H Q E h => ?_) (fun f cdv A outer s H vs Q E hr h => ?_)
  · obtain ⟨b, many, rfl, _⟩ := h
    rfl
  · obtain ⟨b, many, rfl, hm, hm2, hbox, q⟩ := h
    obtain ⟨l, ns, i, c, r, hb, hl, hi, hlb⟩ := hbox.ex
    refine ⟨_, (C8.pss_cut (ps_if (PW.pt (pw_and (pt_cmpR op_eq (pe_ix ix_list (pv 0) pe_int (fun _ _ => rfl)) pe_int (nomark _)) (pw_and1 (pt_cmpR op_lt (pe_ix ix_list (pv 0) pe_int (fun _ _ => rfl)) (pe_callB call_len_seq (by rfl) B.len PySem.boot_len (pa_cons (pe_ix ix_list (pv 0) pe_int (fun _ _ => rfl)) pa_nil)) (nomark _))))) (pss_cons (ps_asg (pe_ix ix_list (pe_ix ix_list (pv 0) pe_int (fun _ _ => rfl)) (pe_ix ix_list (pv 0) pe_int (fun _ _ => rfl)) (fun _ _ => rfl)) (pg_name (i := 2) sc__law_next.nd rfl (Or.inl rfl)))
 (pss_cons (ps_asg (pe_op op_add (pe_ix ix_list (pv 0) pe_int (fun _ _ => rfl)) pe_int) (pg_sub (pv 0) pe_int set_list))
 (pss_one (ps_if (pt_cmpR op_ge (pv 2) (pe_op op_pow pe_int pe_int) (nomark _)) (pss_one (ps_asg (pv 2) (pg_sub (pv 0) pe_int set_list))) (pss_one (ps_asg (pe_op op_modN (pe_callTy call_int1 (by rfl) B.int' (by decide +kernel) (pa_cons (pe_op op_add (pe_op op_add (pe_op op_mul (pe_ix ix_list (pv 0) pe_int (fun _ _ => rfl)) pe_int) (pe_op op_mul (pv 2) pe_int)) (pe_ix ix_list (pv 0) pe_int (fun _ _ => rfl))) pa_nil)) pe_int) (pg_sub (pv 0) pe_int set_list))))))) pss_nil)
 (pss_cons (ps_if (pt_cmpR op_gt (pe_ix ix_list (pv 0) pe_int (fun _ _ => rfl)) pe_int (nomark _)) (pss_cons (ps_asg (pe_op op_modN (pe_callTy call_int1 (by rfl) B.int' (by decide +kernel) (pa_cons (pe_ix ix_list (pv 0) pe_int (fun _ _ => rfl)) pa_nil)) (pv 1)) (pg_name (i := 3) sc__law_next.nd rfl (Or.inl rfl)))
 (pss_cons (ps_asg (pe_op op_fdivW (pe_ix ix_list (pv 0) pe_int (fun _ _ => rfl)) (pv 1)) (pg_sub (pv 0) pe_int set_list))
 (pss_one (ps_ret (pv 3))))) pss_nil)
 (pss_cons (ps_asg (pe_op op_modN (pe_callTy call_int1 (by rfl) B.int' (by decide +kernel) (pa_cons (pe_op op_add (pe_op op_mul (pe_ix ix_list (pv 0) pe_int (fun _ _ => rfl)) pe_int) pe_int) pa_nil)) pe_int) (pg_sub (pv 0) pe_int set_list))
 (pss_cons (ps_asg (pe_op op_modN (pe_callTy call_int1 (by rfl) B.int' (by decide +kernel) (pa_cons (pe_op op_add (pe_op op_add (pe_op op_mul (pe_ix ix_list (pv 0) pe_int (fun _ _ => rfl)) pe_int) (pe_op op_mul (pe_ix ix_list (pv 0) pe_int (fun _ _ => rfl)) pe_int)) pe_int) pa_nil)) pe_int) (pg_name (i := 4) sc__law_next.nd rfl (Or.inl rfl)))
 (pss_one (ps_ret (pe_op op_modN (pe_op op_fdivN (pv 4) pe_int) (pv 1)))))))), ?_⟩
    have hz : ∀ o : HO, (upd H b o) l = some (.lst (ns.map V.int)) := fun o => by rw [upd_ne hlb]; exact hl
    refine ⟨fun σ' H' => ∃ (i2 c2 r2 : Int) (y2 : Option V), 0 ≤ i2 ∧ H' = upd H b (.lst [.int i2, .int c2, .int r2, .ref l]) ∧ σ' = [some (.ref b), some (.int many), y2, none, none], ?_, ?_⟩
    · have hH : H = upd H b (.lst [.int i, .int c, .int r, .ref l]) := by
        funext a
        by_cases ha : a = b
        · rw [ha, upd_same, hb]
        · rw [upd_ne ha]
      refine ⟨_, rfl, b, _, _, _, rfl, rfl, SqL.of hb, rfl, rfl, _, rfl, ?_⟩
      refine ite2 (fun h1 => ?_) (fun h1 => ?_)
      · refine ⟨_, rfl, b, _, _, _, rfl, rfl, SqL.of hb, rfl, _, rfl, b, _, _, _, rfl, rfl, SqL.of hb, rfl, l, _, rfl, .inl (SqL.of hl), _, _, rfl, rfl, _, rfl, ?_⟩
        refine ite2 (fun h2 => ?_) (fun h2 => ?_)
        · have h2 : i < (ns.map V.int).length := of_decide_eq_true h2
          rw [List.length_map] at h2
          obtain ⟨j, rfl⟩ : ∃ j : Nat, i = j := ⟨i.toNat, by omega⟩
          have hj : j < ns.length := by omega
          have g : (ns.map V.int)[j]? = some (.int ns[j]) := by
            rw [List.getElem?_map, List.getElem?_eq_getElem hj]
            rfl
          refine ⟨_, rfl, b, _, _, _, rfl, rfl, SqL.of hb, rfl, _, rfl, b, _, _, _, rfl, rfl, SqL.of hb, rfl, l, _, _, _, rfl, rfl, SqL.of hl, atI_nat g, ?_⟩
          refine ⟨_, rfl, b, _, _, _, rfl, rfl, SqL.of hb, rfl, _, _, rfl, rfl, _, rfl, b, _, _, _, rfl, rfl, hb, rfl, ?_⟩
          refine ⟨_, rfl, _, _, rfl, rfl, ⟨by decide, by decide, by decide⟩, _, _, rfl, rfl, _, rfl, ?_⟩
          refine ite2 (fun h3 => ?_) (fun h3 => ?_)
          · refine ⟨_, rfl, _, rfl, b, _, _, _, rfl, rfl, upd_same, rfl, ?_⟩
            exact ⟨(j : Int) + 1, _, _, _, by omega, upd_twice, rfl⟩
          · have hu : (upd H b (.lst ([V.int (j : Int), V.int c, V.int r, V.ref l].set (Int.toNat 0) (V.int ((j : Int) + 1))))) b = some (.lst [.int ((j : Int) + 1), .int c, .int r, .ref l]) := upd_same
            refine ⟨_, rfl, b, _, _, _, rfl, rfl, SqL.of hu, rfl, _, _, rfl, rfl, .inr ⟨by decide, by decide⟩, _, rfl, _, _, rfl, rfl, .inr ⟨by decide, by decide⟩, _, _, rfl, rfl, _, rfl, b, _, _, _, rfl, rfl, SqL.of hu, rfl, _, _, rfl, rfl, .inl ⟨_, rfl, _, _, rfl, rfl, (show (2147483647 : Int) ≠ 0 by decide), ?_⟩⟩
            refine ⟨_, rfl, b, _, _, _, rfl, rfl, hu, rfl, ?_⟩
            exact ⟨(j : Int) + 1, _, _, _, by omega, upd_twice, rfl⟩
        · exact ⟨i, c, r, none, hi, hH, rfl⟩
      · exact ⟨i, c, r, none, hi, hH, rfl⟩
    · rintro σ' H' ⟨i2, c2, r2, y2, hi2, rfl, rfl⟩
      have hu : (upd H b (.lst [.int i2, .int c2, .int r2, .ref l])) b = some (.lst [.int i2, .int c2, .int r2, .ref l]) := upd_same
      refine ⟨_, rfl, b, _, _, _, rfl, rfl, SqL.of hu, rfl, _, _, rfl, rfl, _, rfl, ?_⟩
      refine ite2 (fun h1 => ?_) (fun h1 => ?_)
      · refine ⟨_, rfl, b, _, _, _, rfl, rfl, SqL.of hu, rfl, .inl ⟨_, rfl, _, rfl, _, _, rfl, rfl, by omega, ?_⟩⟩
        refine ⟨_, rfl, b, _, _, _, rfl, rfl, SqL.of hu, rfl, _, rfl, _, _, rfl, rfl, wide_div (b := 200) hm (big200 hm hm2) (by decide) (by decide), ?_⟩
        refine ⟨_, rfl, b, _, _, _, rfl, rfl, hu, rfl, ?_⟩
        refine ⟨_, rfl, ?_⟩
        rw [upd_twice]
        have f := fmod_box (x := c2) hm
        exact q _ _ f.1 f.2 ⟨l, ns, i2, _, r2, upd_same, hz _, hi2, hlb⟩
      · refine ⟨_, rfl, b, _, _, _, rfl, rfl, SqL.of hu, rfl, _, _, rfl, rfl, .inr ⟨by decide, by decide⟩, _, _, rfl, rfl, .inl ⟨_, rfl, _, _, rfl, rfl, (show (2147483647 : Int) ≠ 0 by decide), ?_⟩⟩
        refine ⟨_, rfl, b, _, _, _, rfl, rfl, hu, rfl, ?_⟩
        rw [upd_twice]
        have hu2 : (upd H b (.lst ([V.int i2, V.int c2, V.int r2, V.ref l].set (Int.toNat 2) (V.int ((r2 * 48271 + 11).fmod 2147483647))))) b = some (.lst [.int i2, .int c2, .int ((r2 * 48271 + 11).fmod 2147483647), .ref l]) := upd_same
        refine ⟨_, rfl, b, _, _, _, rfl, rfl, SqL.of hu2, rfl, _, _, rfl, rfl, .inr ⟨by decide, by decide⟩, _, rfl, b, _, _, _, rfl, rfl, SqL.of hu2, rfl, _, _, rfl, rfl, .inr ⟨by decide, by decide⟩, _, _, rfl, rfl, _, _, rfl, rfl, .inl ⟨_, rfl, _, _, rfl, rfl, (show (2147483629 : Int) ≠ 0 by decide), ?_⟩⟩
        refine ⟨_, rfl, _, _, rfl, rfl, ⟨by decide, by decide⟩, _, rfl, _, _, rfl, rfl, by omega, ?_⟩
        exact q _ _ (fmod_box hm).1 (fmod_box hm).2 ⟨l, ns, i2, _, _, upd_same, hz _, hi2, hlb⟩
abbrev s__law_box : Stmt := topS 12
theorem sc__law_box : FnScope ["_law_script", "_law_cell"] ["_law_script"] (defScope s__law_box) := ⟨rfl, rfl, rfl, by decide +kernel, rfl, by decide +kernel, by decide +kernel⟩
theorem ok_box {k : Nat} (B : Bl mg) (F : Src K mg "_law_box" s__law_box ["_law_script"]) : Def P w K mg base CX0 (k + 1) "_law_box" ["_law_script"] (spBox K) := by
  refine F.ok sc__law_box (fun vs H Q E h => ?_) (fun f cdv A outer s H vs Q E hr h => ?_)
  · obtain ⟨a, ns, rfl, _⟩ := h
    rfl
  · obtain ⟨a, ns, rfl, hS, hlen, q⟩ := h
    refine ⟨_, (pss_one (ps_ret (pe_lst (pa_cons pe_int (pa_cons pe_int (pa_cons pe_int (pa_cons (pe_lc (own := [("_law_cell", 1)]) (g := gName 1) (by rfl) sc__law_box.nd (pi_list (pv 0)) (blkOk_by (N := ["_law_script", "_law_cell"]) (sc := defScope s__law_box) (by decide +kernel)) (fun _ _ _ _ _ => (pg_name (i := 1) sc__law_box.nd rfl (Or.inl rfl))) (fun _ _ _ _ _ => pts_nil) (fun _ _ _ _ _ => (pe_callTy call_int1 (by rfl) B.int' (by decide +kernel) (pa_cons (pv 1) pa_nil)))) pa_nil))))))), ?_⟩
    refine ⟨_, rfl, a, rfl, ⟨_, hS⟩, fun D nD => lc_list (K := K) (a := a) (xs := ns.map V.int) (fun i H' => Same H H' ∧ H' D = some (.lst ((ns.take i).map V.int))) ⟨same_upd nD, upd_same⟩ (fun i H' _ h' => h'.1.seq hS) ?_ ?_⟩
    · rintro i x H' hi ⟨sm, hD⟩
      obtain ⟨z, hz, rfl⟩ : ∃ z, ns[i]? = some z ∧ V.int z = x := by
        rw [List.getElem?_map] at hi
        cases e : ns[i]? with
        | none => rw [e] at hi; cases hi
        | some z => rw [e] at hi; exact ⟨z, rfl, Option.some.inj hi⟩
      refine ⟨rfl, ?_⟩
      refine yes_if ?_
      refine ⟨_, rfl, .inl ⟨_, rfl, _, hD, ?_, ?_, ?_⟩⟩
      · rw [List.length_map, List.length_take]
        exact small1000 (by omega)
      · intro b o e
        rw [upd_ne (ne_of_none e nD)]
        exact sm b o e
      · rw [upd_same, List.take_add_one, hz, List.map_append]
        rfl
    · rintro H' ⟨sm, hD⟩
      rw [List.length_map, List.take_length] at hD
      refine ⟨by show 4 ≤ sizeLine; decide, fun p hp => ?_⟩
      have hpD : D ≠ p := ne_of_none hD hp
      exact q p _ (sm.free hp) (sm.trans (same_upd hp)) ⟨D, ns, 0, 0, 7, upd_same, by rw [upd_ne hpD]; exact hD, by omega, hpD⟩
end

/-! ## words -/
section
variable {P : Program} {w : World} {K : PySem.W.Frag} {mg : Str → Option Value} {base : Heap}
abbrev s_is_word : Stmt := topS 9
theorem sc_is_word : FnScope ["word", "sign"] ["word"] (defScope s_is_word) := ⟨rfl, rfl, rfl, by decide +kernel, rfl, by decide +kernel, by decide +kernel⟩
/-! what a word is, by its code points -/
def LETTERS : Str := "abcdefghijklmnopqrstuvwxyz"
def DIGITS : Str := "0123456789"
def okc (c : Nat) : Bool := decide (c ∈ LETTERS.cps.toList) || decide (c ∈ DIGITS.cps.toList)
def wd (l : List Nat) : Bool := decide (1 ≤ l.length ∧ l.length ≤ 12) && (decide (l.headD 0 ∈ LETTERS.cps.toList) && l.all okc)
def spIsWord : Sp := fun vs H Q _ => ∃ z : Str, vs = [.str z] ∧ z.length ≤ sizeLine ∧ ∀ H', Same H H' → Q (.bl (wd z.cps.toList)) H'
theorem len_cps (z : Str) : z.length = z.cps.toList.length := rfl
theorem all_take {α : Type} {p : α → Bool} {l : List α} {i : Nat} {c : α} (h : l[i]? = some c) : (l.take (i + 1)).map p = (l.take i).map p ++ [p c] := by
  rw [List.take_add_one, h, List.map_append]
  rfl
theorem all_id {α : Type} (p : α → Bool) (l : List α) : (l.map p).all id = l.all p := by
  rw [List.all_map]
  rfl
theorem ok_is_word {k : Nat} (B : Bl mg) (g_LETTERS : Glo mg "LETTERS" (.str LETTERS)) (g_DIGITS : Glo mg "DIGITS" (.str DIGITS)) (g_MOST_SIGNS : Glo mg "MOST_SIGNS" (.int 12)) (F : Src K mg "is_word" s_is_word ["word"]) : Def P w K mg base CX0 (k + 1) "is_word" ["word"] spIsWord := by
  refine F.ok sc_is_word (fun vs H Q E h => ?_) (fun f cdv A outer s H vs Q E hr h => ?_)
  · obtain ⟨z, rfl, _⟩ := h
    rfl
  · obtain ⟨z, rfl, hz, q⟩ := h
    refine ⟨_, (pss_cons (ps_if (pt_not (pt_chain op_le op_le pe_int (pe_callB call_len_str (by rfl) B.len PySem.boot_len (pa_cons (pv 0) pa_nil)) (pe_glo g_MOST_SIGNS))) (pss_one (ps_ret pe_bl)) pss_nil)
 (pss_cons (ps_if (pt_cmpR op_notIn_sign (pe_ix ix_str (pv 0) pe_int (fun _ _ => rfl)) (pe_glo g_LETTERS) rfl) (pss_one (ps_ret pe_bl)) pss_nil)
 (pss_one (ps_ret (pe_callB (cr_all rfl) (by rfl) B.all' (by decide +kernel) (pa_cons (pe_lc (own := [("sign", 1)]) (g := gName 1) (by rfl) sc_is_word.nd (pi_str (pv 0)) (blkOk_by (N := ["word", "sign"]) (sc := defScope s_is_word) (by decide +kernel)) (fun _ _ _ _ _ => (pg_name (i := 1) sc_is_word.nd rfl (Or.inl rfl))) (fun _ _ _ _ _ => pts_nil) (fun _ _ _ _ _ => (pe_or (pe_cmpR op_in_sign (pv 1) (pe_glo g_LETTERS) rfl) (pe_one (pe_cmpR op_in_sign (pv 1) (pe_glo g_DIGITS) rfl))))) pa_nil)))))), ?_⟩
    have hl := len_cps z
    have no : ∀ b : Bool, wd z.cps.toList = b → ∀ H', Same H H' → Q (.bl b) H' := fun b e H' s => by rw [← e]; exact q H' s
    -- not 1 <= len(word) <= 12
    refine ⟨_, rfl, _, rfl, hz, _, _, rfl, rfl, _, rfl, ?_⟩
    refine ite2 (fun h1 => ?_) (fun h1 => ?_)
    · have h1 : (1 : Int) ≤ z.length := of_decide_eq_true h1
      refine ⟨_, _, rfl, rfl, _, rfl, ?_⟩
      refine ite2 (fun h2 => ?_) (fun h2 => ?_)
      · have h2 : ¬ (z.length : Int) ≤ 12 := by simpa using h2
        refine no _ ?_ _ (Same.refl H)
        have : ¬ (1 ≤ z.cps.toList.length ∧ z.cps.toList.length ≤ 12) := by omega
        unfold wd
        rw [decide_eq_false this]
        rfl
      · have h2 : (z.length : Int) ≤ 12 := by simpa using h2
        -- word[0] not in LETTERS
        have hc : z.cps.toList[0]? = some (z.cps.toList.headD 0) := by
          cases e : z.cps.toList with
          | nil => rw [e] at hl; simp at hl; omega
          | cons a r => rfl
        have hw : (decide (1 ≤ z.cps.toList.length ∧ z.cps.toList.length ≤ 12)) = true := decide_eq_true (by omega)
        refine ⟨_, rfl, z, _, _, rfl, rfl, hz, atI_nat (j := 0) hc, _, _, rfl, rfl, _, rfl, ?_⟩
        refine ite2 (fun h3 => ?_) (fun h3 => ?_)
        · refine no _ ?_ _ (Same.refl H)
          have h3 : decide (z.cps.toList.headD 0 ∈ LETTERS.cps.toList) = false := by simpa using h3
          unfold wd
          rw [h3, Bool.false_and, Bool.and_false]
        · have h3 : decide (z.cps.toList.headD 0 ∈ LETTERS.cps.toList) = true := by simpa using h3
          have hv : wd z.cps.toList = z.cps.toList.all okc := by
            unfold wd
            rw [hw, h3, Bool.true_and, Bool.true_and]
          -- all([..])
          refine ⟨_, rfl, z, rfl, fun D nD => lc_it (walk_str (z := z)) (fun i H' => Same H H' ∧ H' D = some (.lst (((z.cps.toList.take i).map okc).map V.bl))) ⟨same_upd nD, upd_same⟩ (fun _ _ _ _ => trivial) ?_ ?_⟩
          · rintro i x H' H2 hi ⟨sm, hD⟩ ⟨rfl, c, hc, rfl⟩
            have hc2 : z.cps.toList[i]? = some c := by simpa using hc
            refine ⟨rfl, yes_if ?_⟩
            have fin : ∃ acc, H2 D = some (.lst acc) ∧ acc.length < sizeLine ∧ Same H (upd H2 D (.lst (acc ++ [V.bl (okc c)]))) ∧ upd H2 D (.lst (acc ++ [V.bl (okc c)])) D = some (.lst (((z.cps.toList.take (i + 1)).map okc).map V.bl)) := by
              refine ⟨_, hD, ?_, fun b o e => ?_, ?_⟩
              · rw [List.length_map, List.length_map, List.length_take]
                exact small1000 (by omega)
              · rw [upd_ne (ne_of_none e nD)]
                exact sm b o e
              · rw [upd_same, all_take hc2, List.map_append]
                rfl
            refine ⟨_, rfl, c, _, rfl, rfl, _, rfl, ?_⟩
            refine ite2 (fun h4 => ?_) (fun h4 => ?_)
            · have e : okc c = true := by unfold okc; rw [h4, Bool.true_or]
              rw [e] at fin
              exact fin
            · have h4 : decide (c ∈ LETTERS.cps.toList) = false := by simpa using h4
              have e : okc c = decide (c ∈ DIGITS.cps.toList) := by unfold okc; rw [h4, Bool.false_or]
              rw [e] at fin
              exact ⟨_, rfl, c, _, rfl, rfl, fin⟩
          · rintro H' ⟨sm, hD⟩
            have e : z.cps.toList.take z.cps.size = z.cps.toList := List.take_of_length_le (by simp)
            rw [e] at hD
            refine ⟨D, _, rfl, SqL.of hD, ?_⟩
            rw [all_id]
            exact no _ hv _ sm
    · have h1 : ¬ (1 : Int) ≤ z.length := by simpa using h1
      refine ⟨_, rfl, ?_⟩
      refine no _ ?_ _ (Same.refl H)
      have : ¬ (1 ≤ z.cps.toList.length ∧ z.cps.toList.length ≤ 12) := by omega
      unfold wd
      rw [decide_eq_false this]
      rfl
abbrev s_check_word : Stmt := topS 10
theorem sc_check_word : FnScope ["word"] ["word"] (defScope s_check_word) := ⟨rfl, rfl, rfl, by decide +kernel, rfl, by decide +kernel, by decide +kernel⟩
def spCheckWord (C : Addr) : Sp := fun vs H Q E => ∃ z : Str, vs = [.str z] ∧ z.length ≤ sizeLine ∧ (wd z.cps.toList = true → ∀ H', Same H H' → Q (.str z) H') ∧ (wd z.cps.toList = false → Rais E H C [("word", .str z)])
theorem ok_check_word {k : Nat} {C_BadWord f_BadWord : Addr} (X_BadWord : ErrTxt P K mg false "BadWord" C_BadWord f_BadWord ["word"]) (D_is_word : Def P w K mg base CX0 k "is_word" ["word"] spIsWord) (F : Src K mg "check_word" s_check_word ["word"]) :
    Def P w K mg base (L2.CX P w) (k + 1) "check_word" ["word"] (spCheckWord C_BadWord) := by
  refine F.okX sc_check_word (fun vs H Q E h => ?_) (fun f cdv A outer s H vs Q E hr h => ?_)
  · obtain ⟨z, rfl, _⟩ := h
    rfl
  · obtain ⟨z, rfl, hz, q1, q2⟩ := h
    refine ⟨_, (pss_cons (ps_if (pt_not (pt_val (pe_def D_is_word hr pass0 (pa_cons (pv 0) pa_nil)))) (pss_one (ps_raiseE rfl X_BadWord hr (takes_of rfl rfl rfl rfl) (pa_cons (pv 0) pa_nil))) pss_nil)
 (pss_one (ps_ret (pv 0)))), ?_⟩
    refine ⟨_, rfl, z, rfl, hz, fun H' sm => ⟨_, rfl, ?_⟩⟩
    refine ite2 (fun h1 => ?_) (fun h1 => ?_)
    · have h1 : wd z.cps.toList = false := by simpa using h1
      exact ⟨_, rfl, rfl, (fun e => by cases e), fun d hd => (q2 h1).go sm hd⟩
    · have h1 : wd z.cps.toList = true := by simpa using h1
      exact ⟨_, rfl, q1 h1 H' sm⟩
end

/-! ## k01 -/
section
variable {P : Program} {w : World} {K : PySem.W.Frag} {mg : Str → Option Value} {base : Heap}
abbrev s__law_text : Stmt := topS 14
theorem sc__law_text : FnScope ["_law_box_here", "_law_letters", "_law_signs", "_law_size", "_law_text_here", "_law_k", "_law_at"] ["_law_box_here"] (defScope s__law_text) := ⟨rfl, rfl, rfl, by decide +kernel, rfl, by decide +kernel, by decide +kernel⟩
def spText : Sp := fun vs H Q _ => ∃ b : Addr, vs = [.ref b] ∧ Box H b ∧ ∀ (z : Str) (H' : Hp), z.length ≤ 100 → Asc z → SameB b H H' → Box H' b → Q (.str z) H'
theorem get_lt {l : List Nat} {n : Int} (h0 : 0 ≤ n) (h1 : n < l.length) (h2 : l.all (fun c => decide (c < 128)) = true) : ∃ c, atI l n = some c ∧ c < 128 := by
  obtain ⟨j, rfl⟩ : ∃ j : Nat, n = j := ⟨n.toNat, by omega⟩
  have hj : j < l.length := by omega
  refine ⟨l[j], atI_nat (List.getElem?_eq_getElem hj), ?_⟩
  rw [List.all_eq_true] at h2
  exact of_decide_eq_true (h2 _ (List.getElem_mem hj))
theorem ok_text {k : Nat} (B : Bl mg) (D__law_next : Def P w K mg base CX0 k "_law_next" ["_law_box_here", "_law_many"] spNext) (F : Src K mg "_law_text" s__law_text ["_law_box_here"]) : Def P w K mg base CX0 (k + 1) "_law_text" ["_law_box_here"] spText := by
  refine F.ok sc__law_text (fun vs H Q E h => ?_) (fun f cdv A outer s H vs Q E hr h => ?_)
  · obtain ⟨b, rfl, _⟩ := h
    rfl
  · obtain ⟨b, rfl, hb, q⟩ := h
    refine ⟨_, (pss_cons (ps_asg pe_str (pg_name (i := 1) sc__law_text.nd rfl (Or.inl rfl)))
 (pss_cons (ps_asg pe_str (pg_name (i := 2) sc__law_text.nd rfl (Or.inl rfl)))
 (pss_cons (ps_asg (pe_def D__law_next hr pass0 (pa_cons (pv 0) (pa_cons pe_int pa_nil))) (pg_name (i := 3) sc__law_text.nd rfl (Or.inl rfl)))
 (pss_cons (ps_asg pe_str (pg_name (i := 4) sc__law_text.nd rfl (Or.inl rfl)))
 (pss_cons (ps_for PassesOwn.never rfl (pi_range1 (by rfl) B.range (pa_cons (pv 3) pa_nil)) (pg_name (i := 5) sc__law_text.nd rfl (Or.inl rfl)) (pss_one (ps_asg (pe_op op_add_str (pv 4) (pe_ix ix_str (pv 1) (pe_def D__law_next hr pass0 (pa_cons (pv 0) (pa_cons pe_int pa_nil))) (fun _ _ => rfl))) (pg_name (i := 4) sc__law_text.nd rfl (Or.inl rfl)))))
 (pss_cons (ps_if (PW.pt (pw_and (pt_cmpR op_gt (pv 3) pe_int (nomark _)) (pw_and1 (pt_cmpR op_eq (pe_def D__law_next hr pass0 (pa_cons (pv 0) (pa_cons pe_int pa_nil))) pe_int (nomark _))))) (pss_cons (ps_asg (pe_def D__law_next hr pass0 (pa_cons (pv 0) (pa_cons (pv 3) pa_nil))) (pg_name (i := 6) sc__law_text.nd rfl (Or.inl rfl)))
 (pss_one (ps_asg (pe_op op_add_str (pe_op op_add_str (pe_slice sl_str (pv 4) po_none (po_some (pv 6))) (pe_ix ix_str (pv 2) (pe_def D__law_next hr pass0 (pa_cons (pv 0) (pa_cons pe_int pa_nil))) (fun _ _ => rfl))) (pe_slice sl_str (pv 4) (po_some (pe_op op_add (pv 6) pe_int)) po_none)) (pg_name (i := 4) sc__law_text.nd rfl (Or.inl rfl))))) pss_nil)
 (pss_one (ps_ret (pv 4))))))))), ?_⟩
    -- the size
    refine ⟨_, rfl, b, 15, rfl, by decide, by decide, hb, fun n o n0 n1 hb1 => ?_⟩
    have s1 : SameB b H (upd H b o) := (SameB.refl b H).upd
    -- the loop
    refine ⟨_, rfl, n, rfl, by omega, by omega, for_range (lo := 0) (n := n.toNat) (fun i σ H' => ∃ (z : Str) (y : Option V), z.length = i ∧ Asc z ∧ σ = [some (.ref b), some (.str "abcdefghijklmnopqrstuvwxyz0123456789"), some (.str " !\"#$&'()*+,-./0123456789:;<=>?@ABCDEFGHIJKLMNOPQRSTUVWXYZ[\\]^_`abcdefghijklmnopqrstuvwxyz{|}~"), some (.int n), some (.str z), y, none] ∧ SameB b H H' ∧ Box H' b)
      ⟨_, none, rfl, (fun c hc => by cases hc), rfl, s1, hb1⟩ ?_ ?_⟩
    · rintro i σ H' hi ⟨z, y, hz, ha, rfl, sm, hb'⟩
      refine ⟨_, rfl, _, rfl, _, rfl, b, 36, rfl, by decide, by decide, hb', fun m o2 m0 m1 hb2 => ?_⟩
      obtain ⟨c, hc, hc8⟩ := get_lt (l := ("abcdefghijklmnopqrstuvwxyz0123456789" : Str).cps.toList) m0 (by show m < 36; exact m1) (by decide)
      refine ⟨_, _, c, rfl, rfl, by decide, hc, _, _, rfl, rfl, ?_, ?_⟩
      · show z.length + 1 ≤ sizeLine
        exact Nat.le_trans (show z.length + 1 ≤ 1000 by omega) (by decide)
      · refine ⟨z ++ ⟨#[c]⟩, _, ?_, ha.app (.one hc8), rfl, sm.upd, hb2⟩
        rw [Str.length_append, hz]
        rfl
    · rintro σ H' ⟨z, y, hz, ha, rfl, sm, hb'⟩
      have hz14 : z.length ≤ 14 := by omega
      -- a sign exchanged
      refine ⟨_, rfl, _, _, rfl, rfl, _, rfl, ?_⟩
      refine ite2 (fun h1 => ?_) (fun h1 => ?_)
      · have h1 : 0 < n := of_decide_eq_true h1
        refine ⟨_, rfl, b, 3, rfl, by decide, by decide, hb', fun m o2 m0 m1 hb2 => ⟨rfl, _, rfl, ?_⟩⟩
        refine ite2 (fun h2 => ?_) (fun h2 => ?_)
        · refine ⟨_, rfl, _, rfl, b, n, rfl, h1, by omega, hb2, fun at' o3 a0 a1 hb3 => ?_⟩
          refine ⟨_, rfl, _, rfl, _, rfl, z, rfl, Nat.le_trans hz14 (by decide), ?_⟩
          refine ⟨_, rfl, _, rfl, b, 94, rfl, by decide, by decide, hb3, fun m2 o4 c0 c1 hb4 => ?_⟩
          obtain ⟨c, hc, hc8⟩ := get_lt (l := (" !\"#$&'()*+,-./0123456789:;<=>?@ABCDEFGHIJKLMNOPQRSTUVWXYZ[\\]^_`abcdefghijklmnopqrstuvwxyz{|}~" : Str).cps.toList) c0 (by show m2 < 94; exact c1) (by decide)
          have l1 := cutS_length z none (some at')
          have l2 := cutS_length z (some (at' + 1)) none
          have l3 : (cutS z none (some at') ++ (⟨#[c]⟩ : Str)).length ≤ 15 := by
            rw [Str.length_append]
            show _ + 1 ≤ 15
            omega
          refine ⟨_, _, c, rfl, rfl, by decide, hc, _, _, rfl, rfl, ?_, ?_⟩
          · show _ + 1 ≤ sizeLine
            exact Nat.le_trans (show _ + 1 ≤ 1000 by omega) (by decide)
          · refine ⟨_, rfl, _, rfl, _, _, rfl, rfl, _, rfl, z, rfl, Nat.le_trans hz14 (by decide), _, _, rfl, rfl, ?_, ?_⟩
            · exact Nat.le_trans (show _ ≤ 1000 by omega) (by decide)
            · refine ⟨_, rfl, ?_⟩
              refine q _ _ ?_ (((ha.cut _ _).app (.one hc8)).app (ha.cut _ _)) (((sm.upd).upd).upd) hb4
              rw [Str.length_append]
              omega
        · exact ⟨_, rfl, q _ _ (by omega) ha sm.upd hb2⟩
      · exact ⟨_, rfl, q _ _ (by omega) ha sm hb'⟩
abbrev s__law_is_word : Stmt := topS 15
theorem sc__law_is_word : FnScope ["_law_text_here", "_law_letters", "_law_sign"] ["_law_text_here"] (defScope s__law_is_word) := ⟨rfl, rfl, rfl, by decide +kernel, rfl, by decide +kernel, by decide +kernel⟩
def spIs : Sp := fun vs H Q _ => ∃ z : Str, vs = [.str z] ∧ z.length ≤ 1000 ∧ Asc z ∧ ∀ H', Same H H' → Q (.bl (wd z.cps.toList)) H'
theorem ok_is {k : Nat} (B : Bl mg) (F : Src K mg "_law_is_word" s__law_is_word ["_law_text_here"]) : Def P w K mg base CX0 (k + 1) "_law_is_word" ["_law_text_here"] spIs := by
  refine F.ok sc__law_is_word (fun vs H Q E h => ?_) (fun f cdv A outer s H vs Q E hr h => ?_)
  · obtain ⟨z, rfl, _⟩ := h
    rfl
  · obtain ⟨z, rfl, hz, hA, q⟩ := h
    have hz2 : z.length ≤ sizeLine := Nat.le_trans hz (by decide)
    have hl := len_cps z
    have no : ∀ b : Bool, wd z.cps.toList = b → ∀ H', Same H H' → Q (.bl b) H' := fun b e H' s => by rw [← e]; exact q H' s
    refine ⟨_, (pss_cons (ps_asg pe_str (pg_name (i := 1) sc__law_is_word.nd rfl (Or.inr rfl)))
 (pss_cons (ps_if (PW.pt (pw_or (pt_cmpR op_eq (pv 0) pe_str (nomark _)) (pw_or (pt_cmpR op_gt (pe_callB call_len_str (by rfl) B.len PySem.boot_len (pa_cons (pv 0) pa_nil)) pe_int (nomark _)) (pw_or1 (pt_cmpR op_notIn_sign (pe_ix ix_str (pv 0) pe_int (fun _ _ => rfl)) (pv 1) rfl))))) (pss_one (ps_ret pe_bl)) pss_nil)
 (pss_one (ps_ret (pe_cmpR (op_eqD hr.units) (pe_lc (own := [("_law_sign", 2)]) (g := gName 2) (by rfl) sc__law_is_word.nd (pi_str (pv 0)) (blkOk_by (N := ["_law_text_here", "_law_letters", "_law_sign"]) (sc := defScope s__law_is_word) (by decide +kernel)) (fun _ _ _ _ _ => (pg_name (i := 2) sc__law_is_word.nd rfl (Or.inl rfl))) (fun _ _ _ _ _ => pts_one (pt_cmpR op_notIn_sign (pv 2) (pe_op op_add_str (pv 1) pe_str) rfl)) (fun _ _ _ _ _ => (pv 2))) (pe_lst pa_nil) (nomark _)))))), ?_⟩
    refine ⟨_, rfl, rfl, _, rfl, ?_⟩
    have short : ¬ (1 ≤ z.cps.toList.length ∧ z.cps.toList.length ≤ 12) → wd z.cps.toList = false := fun h => by
      unfold wd
      rw [decide_eq_false h]
      rfl
    refine ite2 (fun h1 => ?_) (fun h1 => ?_)
    · refine iteT (no _ (short ?_) _ (Same.refl H))
      have h1 : V.str z = V.str "" := of_decide_eq_true h1
      cases h1
      decide
    · have h1 : ¬ V.str z = V.str "" := by simpa using h1
      have h1 : z.cps.toList ≠ [] := fun e => h1 (by
        obtain ⟨⟨l⟩⟩ := z
        have e : l = [] := e
        rw [e]
        rfl)
      refine ⟨_, rfl, _, rfl, hz2, _, _, rfl, rfl, _, rfl, ?_⟩
      refine ite2 (fun h2 => ?_) (fun h2 => ?_)
      · have h2 : (12 : Int) < z.length := of_decide_eq_true h2
        exact iteT (no _ (short (by omega)) _ (Same.refl H))
      · have h2 : ¬ (12 : Int) < z.length := by simpa using h2
        have h0 : 1 ≤ z.cps.toList.length := by
          cases e : z.cps.toList with
          | nil => exact absurd e h1
          | cons a r => simp
        have hc : z.cps.toList[0]? = some (z.cps.toList.headD 0) := by
          cases e : z.cps.toList with
          | nil => exact absurd e h1
          | cons a r => rfl
        have hw : (decide (1 ≤ z.cps.toList.length ∧ z.cps.toList.length ≤ 12)) = true := decide_eq_true (by omega)
        refine ⟨_, rfl, z, _, _, rfl, rfl, hz2, atI_nat (j := 0) hc, _, rfl, _, _, rfl, rfl, _, rfl, ?_⟩
        refine ite2 (fun h3 => ?_) (fun h3 => ?_)
        · have h3 : decide (z.cps.toList.headD 0 ∈ LETTERS.cps.toList) = false := by
            have h3 : (!decide (z.cps.toList.headD 0 ∈ LETTERS.cps.toList)) = true := h3
            simpa using h3
          refine no _ ?_ _ (Same.refl H)
          unfold wd
          rw [h3, Bool.false_and, Bool.and_false]
        · have h3 : decide (z.cps.toList.headD 0 ∈ LETTERS.cps.toList) = true := by
            have h3 : ¬ (!decide (z.cps.toList.headD 0 ∈ LETTERS.cps.toList)) = true := h3
            simpa using h3
          have hv : wd z.cps.toList = z.cps.toList.all okc := by
            unfold wd
            rw [hw, h3, Bool.true_and, Bool.true_and]
          refine ⟨_, rfl, z, rfl, fun D nD => lc_it (walk_str (z := z)) (fun i H' => Same H H' ∧ H' D = some (.lst (((z.cps.toList.take i).filter (fun c => !okc c)).map fun c => V.str ⟨#[c]⟩))) ⟨same_upd nD, upd_same⟩ (fun _ _ _ _ => trivial) ?_ ?_⟩
          · rintro i x H' H2 hi ⟨sm, hD⟩ ⟨rfl, c, hc, rfl⟩
            have hc2 : z.cps.toList[i]? = some c := by simpa using hc
            have ht : (z.cps.toList.take (i + 1)).filter (fun c => !okc c) = (z.cps.toList.take i).filter (fun c => !okc c) ++ if okc c then [] else [c] := by
              rw [List.take_add_one, hc2, List.filter_append]
              cases h : okc c <;> simp [List.filter, h]
            have hin : decide (c ∈ (LETTERS ++ DIGITS).cps.toList) = okc c := by
              unfold okc
              rw [show (LETTERS ++ DIGITS).cps.toList = LETTERS.cps.toList ++ DIGITS.cps.toList by decide]
              rw [Bool.eq_iff_iff]
              simp [List.mem_append]
            refine ⟨rfl, _, rfl, _, rfl, _, _, rfl, rfl, by decide, c, _, rfl, rfl, _, rfl, ?_⟩
            refine ite2 (fun h4 => ?_) (fun h4 => ?_)
            · have h4 : okc c = false := by
                have h4 : (!decide (c ∈ (LETTERS ++ DIGITS).cps.toList)) = true := h4
                rw [hin] at h4
                simpa using h4
              refine ⟨_, rfl, _, hD, ?_, fun b o e => ?_, ?_⟩
              · rw [List.length_map]
                refine small1000 (Nat.le_trans (List.length_filter_le _ _) ?_)
                rw [List.length_take]
                omega
              · rw [upd_ne (ne_of_none e nD)]
                exact sm b o e
              · rw [upd_same, ht, h4, if_neg Bool.false_ne_true, List.map_append]
                rfl
            · have h4 : okc c = true := by
                have h4 : ¬ (!decide (c ∈ (LETTERS ++ DIGITS).cps.toList)) = true := h4
                rw [hin] at h4
                simpa using h4
              refine ⟨sm, ?_⟩
              rw [ht, h4, if_pos rfl, List.append_nil]
              exact hD
          · rintro H' ⟨sm, hD⟩
            have e : z.cps.toList.take z.cps.size = z.cps.toList := List.take_of_length_le (by simp)
            rw [e] at hD
            refine ⟨Nat.zero_le _, fun p hp => ?_⟩
            have hDp : D ≠ p := ne_of_none hD hp
            have hD2 : (upd H' p (.lst [])) D = some (.lst ((z.cps.toList.filter (fun c => !okc c)).map fun c => V.str ⟨#[c]⟩)) := by
              rw [upd_ne hDp]
              exact hD
            have em : ((z.cps.toList.filter (fun c => !okc c)).map fun c => V.str ⟨#[c]⟩) = ((z.cps.toList.filter (fun c => !okc c)).map fun c => (⟨#[c]⟩ : Str)).map V.str := by
              rw [List.map_map]
              rfl
            rw [em] at hD2
            have hnb : nb (dStrs ((z.cps.toList.filter (fun c => !okc c)).map fun c => (⟨#[c]⟩ : Str))) = true := nb_strs fun y hy => by
              obtain ⟨c, hc, rfl⟩ := List.mem_map.mp hy
              exact .one (hA c (List.mem_filter.mp hc).1)
            refine ⟨_, _, .lst (SqL.of hD2) (dpall_strs _), .lst (SqL.of upd_same) .nil, shaped_of hnb ?_, rfl, ?_⟩
            · simp only [PyData.depth]
              have := depth_strs ((z.cps.toList.filter (fun c => !okc c)).map fun c => (⟨#[c]⟩ : Str))
              omega
            · refine no _ ?_ _ (sm.trans (same_upd hp))
              rw [hv, Bool.eq_iff_iff, eqv_nb _ _ hnb rfl, List.all_eq_true]
              constructor
              · intro h
                rw [List.filter_eq_nil_iff.mpr fun c hc => by simpa using h c hc]
                rfl
              · intro h c hc
                have h : List.filter (fun c => !okc c) z.cps.toList = [] := by simpa using h
                have := List.filter_eq_nil_iff.mp h c hc
                simpa using this
abbrev s__law_one : Stmt := topS 16
theorem sc__law_one : FnScope ["_law_text_here", "_law_told", "_law_wrong", "_law_kinds", "e"] ["_law_text_here"] (defScope s__law_one) := ⟨rfl, rfl, rfl, by decide +kernel, rfl, by decide +kernel, by decide +kernel⟩
def spOne : Sp := fun vs H Q _ => ∃ z : Str, vs = [.str z] ∧ z.length ≤ 1000 ∧ Asc z ∧ ∀ H', Same H H' → Q (.bl true) H'
theorem ok_one {k : Nat} {C_BadWord f_BadWord C_BadNumber C_UnknownName C_HeldError : Addr} (B : Bl mg) (X_BadWord : ErrTxt P K mg false "BadWord" C_BadWord f_BadWord ["word"]) (g_HeldError : Glo mg "HeldError" (.ref C_HeldError)) (g_BadNumber : Glo mg "BadNumber" (.ref C_BadNumber)) (g_UnknownName : Glo mg "UnknownName" (.ref C_UnknownName))
    (k1 : PySem.W.kitOne K (.ref C_BadWord) (.ref C_HeldError) = some true) (k2 : PySem.W.kitOne K (.ref C_BadWord) (.type "ValueError") = some true) (k3 : PySem.W.kitOne K (.ref C_BadWord) (.ref C_BadNumber) = some false) (k4 : PySem.W.kitOne K (.ref C_BadWord) (.ref C_UnknownName) = some false)
    (D_check_word : Def P w K mg base (L2.CX P w) k "check_word" ["word"] (spCheckWord C_BadWord)) (D__law_is_word : Def P w K mg base CX0 k "_law_is_word" ["_law_text_here"] spIs)
    (F : Src K mg "_law_one" s__law_one ["_law_text_here"]) : Def P w K mg base CX0 (k + 1) "_law_one" ["_law_text_here"] spOne := by
  refine F.ok sc__law_one (fun vs H Q E h => ?_) (fun f cdv A outer s H vs Q E hr h => ?_)
  · obtain ⟨z, rfl, _⟩ := h
    rfl
  · obtain ⟨z, rfl, hz, hA, q⟩ := h
    have hz2 : z.length ≤ sizeLine := Nat.le_trans hz (by decide)
    refine ⟨_, (pss_cons (ps_asg pe_non (pg_name (i := 1) sc__law_one.nd rfl (Or.inl rfl)))
 (pss_cons (ps_asg pe_non (pg_name (i := 2) sc__law_one.nd rfl (Or.inl rfl)))
 (pss_cons (ps_asg pe_bl (pg_name (i := 3) sc__law_one.nd rfl (Or.inl rfl)))
 (pss_cons (ps_try_as (i := 4) rfl rfl sc__law_one.nd rfl rfl ⟨rfl, by decide, .inl X_BadWord.gC⟩ takes0 (fun W pn xe tk _ => (pss_one (ps_asg (pe_defS D_check_word hr (fun σ => passAt tk σ) (pa_cons (pv 0) pa_nil)) (pg_name (i := 1) sc__law_one.nd rfl (Or.inl rfl))))) (fun a oe cls d pn hz hf => (pss_cons (ps_asg (pe_xf X_BadWord.xf (X_BadWord.noN _ (by decide)) hz hf (pv 4)) (pg_name (i := 2) sc__law_one.nd rfl (Or.inl rfl)))
 (pss_cons (ps_asg (pe_and (pe_callB (call_isD hz hf) (by rfl) B.isinstance (by decide +kernel) (pa_cons (pv 4) (pa_cons (pe_glo g_HeldError) pa_nil))) (pe_one (pe_callB (call_isD hz hf) (by rfl) B.isinstance (by decide +kernel) (pa_cons (pv 4) (pa_cons (pe_bltn (v := .ty "ValueError") (by rfl) B.ValueError (by decide +kernel) rfl) pa_nil))))) (pg_name (i := 3) sc__law_one.nd rfl (Or.inl rfl)))
 (pss_one (ps_asg (pe_and (pv 3) (pe_and (pe_not (pe_callB (call_isD hz hf) (by rfl) B.isinstance (by decide +kernel) (pa_cons (pv 4) (pa_cons (pe_glo g_BadNumber) pa_nil)))) (pe_one (pe_not (pe_callB (call_isD hz hf) (by rfl) B.isinstance (by decide +kernel) (pa_cons (pv 4) (pa_cons (pe_glo g_UnknownName) pa_nil))))))) (pg_name (i := 3) sc__law_one.nd rfl (Or.inl rfl))))))))
 (pss_cons (ps_if (pt_val (pe_def D__law_is_word hr pass0 (pa_cons (pv 0) pa_nil))) (pss_one (ps_ret (pe_and (pe_callB call_isi (by rfl) B.isinstance (by decide +kernel) (pa_cons (pv 1) (pa_cons (pe_bltn (v := .ty "str") (by rfl) B.str' (by decide +kernel) rfl) pa_nil))) (pe_and (pe_cmpR op_eq (pv 1) (pv 0) (nomark _)) (pe_one (pe_cmpR op_isN (pv 2) pe_non (nomark _))))))) pss_nil)
 (pss_one (ps_ret (pe_and (pe_cmpR op_isN (pv 1) pe_non (nomark _)) (pe_and (pe_callB call_isi (by rfl) B.isinstance (by decide +kernel) (pa_cons (pv 2) (pa_cons (pe_bltn (v := .ty "str") (by rfl) B.str' (by decide +kernel) rfl) pa_nil))) (pe_and (pe_cmpR op_eq (pv 2) (pv 0) (nomark _)) (pe_one (pv 3)))))))))))), ?_⟩
    refine ⟨_, rfl, z, rfl, hz2, fun hw H1 s1 => ?_, fun hw H1 d s1 nd hd => ?_⟩
    · refine ⟨_, rfl, z, rfl, hz, hA, fun H2 s2 => ⟨_, rfl, ?_⟩⟩
      rw [hw]
      refine iteT ?_
      refine ⟨_, rfl, _, _, _, _, true, rfl, .ty _, .base (.str _), kit_ty (by decide +kernel), _, rfl, ?_⟩
      refine iteT ⟨_, rfl, _, rfl, rfl, _, rfl, ?_⟩
      rw [decide_eq_true rfl]
      refine iteT ⟨_, rfl, rfl, ?_⟩
      exact q _ (s1.trans s2)
    · refine ⟨true, X_BadWord.te, fun _ a ha => ?_, fun e => Bool.noConfusion e⟩
      have hi := X_BadWord.isC
      -- e.word, isinstance(e, ..)
      refine ⟨_, rfl, rfl, rfl, d, _, _, rfl, hd, rfl, ?_⟩
      refine ⟨_, rfl, _, d, _, _, _, true, rfl, hi, rfl, hd, rfl, fun u r => r, k1, _, rfl, ?_⟩
      refine iteT ⟨_, rfl, _, d, _, _, _, true, rfl, hi, rfl, hd, rfl, fun u r => r, k2, ?_⟩
      refine ⟨_, rfl, _, rfl, ?_⟩
      refine iteT ⟨_, rfl, _, d, _, _, _, false, rfl, hi, rfl, hd, rfl, fun u r => r, k3, _, rfl, _, rfl, ?_⟩
      refine iteT ⟨_, rfl, _, d, _, _, _, false, rfl, hi, rfl, hd, rfl, fun u r => r, k4, _, rfl, ?_⟩
      refine ⟨_, rfl, z, rfl, hz, hA, fun H2 s2 => ⟨_, rfl, ?_⟩⟩
      rw [hw]
      refine iteF ?_
      refine ⟨_, rfl, rfl, _, rfl, ?_⟩
      refine iteT ?_
      refine ⟨_, rfl, _, _, _, _, true, rfl, .ty _, .base (.str _), kit_ty (by decide +kernel), _, rfl, ?_⟩
      refine iteT ⟨_, rfl, _, rfl, rfl, _, rfl, ?_⟩
      rw [decide_eq_true rfl]
      refine iteT ⟨_, rfl, ?_⟩
      exact q _ (s1.trans s2)
abbrev s_law : Stmt := topS 17
theorem sc_law : FnScope ["_law_script", "_law_box_here", "_law_turn"] ["_law_script"] (defScope s_law) := ⟨rfl, rfl, rfl, by decide +kernel, rfl, by decide +kernel, by decide +kernel⟩
def spLaw (K : PySem.W.Frag) : Sp := fun vs H Q _ => ∃ (a : Addr) (ns : List Int), vs = [.ref a] ∧ SqL K H a (ns.map V.int) ∧ ns.length ≤ 63 ∧ ∀ H', Q (.bl true) H'
theorem ok_law {k : Nat} (B : Bl mg) (D__law_box : Def P w K mg base CX0 k "_law_box" ["_law_script"] (spBox K)) (D__law_text : Def P w K mg base CX0 k "_law_text" ["_law_box_here"] spText) (D__law_one : Def P w K mg base CX0 k "_law_one" ["_law_text_here"] spOne)
    {f : Addr} {fd : FuncData} (F : Fun K "law" "law" s_law f fd) : FnOk P w K mg base CX0 (k + 1) f fd ["_law_script"] (spLaw K) := by
  refine F.ok sc_law (fun vs H Q E h => ?_) (fun cdv A outer s H vs Q E hr h => ?_)
  · obtain ⟨a, ns, rfl, _⟩ := h
    rfl
  · obtain ⟨a, ns, rfl, hS, hlen, q⟩ := h
    refine ⟨_, (pss_cons (ps_asg (pe_def D__law_box hr pass0 (pa_cons (pv 0) pa_nil)) (pg_name (i := 1) sc_law.nd rfl (Or.inl rfl)))
 (pss_cons (ps_for PassesOwn.never rfl (pi_range1 (by rfl) B.range (pa_cons pe_int pa_nil)) (pg_name (i := 2) sc_law.nd rfl (Or.inl rfl)) (pss_one (ps_if (pt_not (pt_val (pe_def D__law_one hr pass0 (pa_cons (pe_def D__law_text hr pass0 (pa_cons (pv 1) pa_nil)) pa_nil)))) (pss_one (ps_ret pe_bl)) pss_nil)))
 (pss_one (ps_ret pe_bl)))), ?_⟩
    refine ⟨_, rfl, a, ns, rfl, hS, hlen, fun b H1 nb s1 hb => ?_⟩
    refine ⟨9, rfl, by decide, by decide, for_range (lo := 0) (n := 9) (fun i σ H' => ∃ y, σ = [some (.ref a), some (.ref b), y] ∧ Box H' b) ⟨none, rfl, hb⟩ ?_ ?_⟩
    · rintro i σ H' hi ⟨y, rfl, hb'⟩
      refine ⟨_, rfl, b, rfl, hb', fun z H2 hz hA s2 hb2 => ⟨z, rfl, by omega, hA, fun H3 s3 => ⟨_, rfl, ?_⟩⟩⟩
      exact iteF ⟨_, rfl, hb2.keep s3⟩
    · rintro σ H' ⟨y, rfl, hb'⟩
      exact q H'
end

/-! ## the end -/
theorem all_mk {P : Program} {w : World} {K : PySem.W.Frag} {h : Heap} {mg : Str → Option Value} {fa : Addr} (X : K.In h) (G : h.Ns mainGlobals mg) (hfa : mg "law" = some (.ref fa)) (top : (P.main.scope.names.lookup ("super" : Str)).isSome = false)
    {t_LETTERS : Tok}
    {t_DIGITS : Tok}
    {t_MOST_SIGNS : Tok}
    {f_is_word : Addr} {od_is_word an_is_word : Option Addr} {sl_is_word : Array (Option Value)} {oc_is_word kV_is_word dc_is_word pm_is_word cd_is_word ct_is_word : Value}
    {f_check_word : Addr} {od_check_word an_check_word : Option Addr} {sl_check_word : Array (Option Value)} {oc_check_word kV_check_word dc_check_word pm_check_word cd_check_word ct_check_word : Value}
    {f__law_box : Addr} {od__law_box an__law_box : Option Addr} {sl__law_box : Array (Option Value)} {oc__law_box kV__law_box dc__law_box pm__law_box cd__law_box ct__law_box : Value}
    {f__law_next : Addr} {od__law_next an__law_next : Option Addr} {sl__law_next : Array (Option Value)} {oc__law_next kV__law_next dc__law_next pm__law_next cd__law_next ct__law_next : Value}
    {f__law_text : Addr} {od__law_text an__law_text : Option Addr} {sl__law_text : Array (Option Value)} {oc__law_text kV__law_text dc__law_text pm__law_text cd__law_text ct__law_text : Value}
    {f__law_is_word : Addr} {od__law_is_word an__law_is_word : Option Addr} {sl__law_is_word : Array (Option Value)} {oc__law_is_word kV__law_is_word dc__law_is_word pm__law_is_word cd__law_is_word ct__law_is_word : Value}
    {f__law_one : Addr} {od__law_one an__law_one : Option Addr} {sl__law_one : Array (Option Value)} {oc__law_one kV__law_one dc__law_one pm__law_one cd__law_one ct__law_one : Value}
    {f_law : Addr} {od_law an_law : Option Addr} {sl_law : Array (Option Value)} {oc_law kV_law dc_law pm_law cd_law ct_law : Value}
    {C_HeldError : Addr}
    {C_BadNumber : Addr}
    {C_UnknownName : Addr}
    {C_BadWord fI_BadWord N_BadWord cda_BadWord cc_BadWord : Addr} {nm_BadWord q_BadWord file_BadWord : Str} {bs_BadWord bm_BadWord sub_BadWord : List Value} {sn_BadWord : List Str} {ab_BadWord : Bool} {col_BadWord : Option Bool} {dd_BadWord od_BadWord an_BadWord cdd_BadWord cld_BadWord : Option Addr} {m0_BadWord m1_BadWord m2_BadWord m3_BadWord m5_BadWord : Option Value} {oc_BadWord kV_BadWord dc_BadWord pm_BadWord ct_BadWord ccl_BadWord cl_BadWord : Value} {sl_BadWord ccs_BadWord csl_BadWord : Array (Option Value)} {vs_BadWord : Array Value} {tf_BadWord : Tok}
    (z_len : PySem.W.nsIn K mainGlobals "len" = some none)
    (z_range : PySem.W.nsIn K mainGlobals "range" = some none)
    (z_abs : PySem.W.nsIn K mainGlobals "abs" = some none)
    (z_sum : PySem.W.nsIn K mainGlobals "sum" = some none)
    (z_sorted : PySem.W.nsIn K mainGlobals "sorted" = some none)
    (z_isinstance : PySem.W.nsIn K mainGlobals "isinstance" = some none)
    (z_zip : PySem.W.nsIn K mainGlobals "zip" = some none)
    (z_enumerate : PySem.W.nsIn K mainGlobals "enumerate" = some none)
    (z_reversed : PySem.W.nsIn K mainGlobals "reversed" = some none)
    (z_int : PySem.W.nsIn K mainGlobals "int" = some none)
    (z_str : PySem.W.nsIn K mainGlobals "str" = some none)
    (z_list : PySem.W.nsIn K mainGlobals "list" = some none)
    (z_tuple : PySem.W.nsIn K mainGlobals "tuple" = some none)
    (z_bool : PySem.W.nsIn K mainGlobals "bool" = some none)
    (z_all : PySem.W.nsIn K mainGlobals "all" = some none)
    (z_any : PySem.W.nsIn K mainGlobals "any" = some none)
    (z_ValueError : PySem.W.nsIn K mainGlobals "ValueError" = some none)
    (z_super : PySem.W.nsIn K mainGlobals "super" = some none)
    (a_LETTERS : PySem.W.nsIn K mainGlobals "LETTERS" = some (some (.str LETTERS t_LETTERS)))
    (a_DIGITS : PySem.W.nsIn K mainGlobals "DIGITS" = some (some (.str DIGITS t_DIGITS)))
    (a_MOST_SIGNS : PySem.W.nsIn K mainGlobals "MOST_SIGNS" = some (some (.int 12 t_MOST_SIGNS)))
    (a_is_word : PySem.W.nsIn K mainGlobals "is_word" = some (some (.ref f_is_word)))
    (l_is_word : K.lookup f_is_word = some ⟨oc_is_word, od_is_word, .func (PySem.W.fnOf "is_word" "is_word" (defArgs s_is_word) (defBody s_is_word) (defScope s_is_word) .none kV_is_word dc_is_word pm_is_word an_is_word cd_is_word ct_is_word), sl_is_word⟩)
    (c_is_word : PySem.W.codeIn K cd_is_word "is_word" = true)
    (k_is_word : PySem.W.keepIn K (.ref f_is_word) = true)
    (a_check_word : PySem.W.nsIn K mainGlobals "check_word" = some (some (.ref f_check_word)))
    (l_check_word : K.lookup f_check_word = some ⟨oc_check_word, od_check_word, .func (PySem.W.fnOf "check_word" "check_word" (defArgs s_check_word) (defBody s_check_word) (defScope s_check_word) .none kV_check_word dc_check_word pm_check_word an_check_word cd_check_word ct_check_word), sl_check_word⟩)
    (c_check_word : PySem.W.codeIn K cd_check_word "check_word" = true)
    (k_check_word : PySem.W.keepIn K (.ref f_check_word) = true)
    (a__law_box : PySem.W.nsIn K mainGlobals "_law_box" = some (some (.ref f__law_box)))
    (l__law_box : K.lookup f__law_box = some ⟨oc__law_box, od__law_box, .func (PySem.W.fnOf "_law_box" "_law_box" (defArgs s__law_box) (defBody s__law_box) (defScope s__law_box) .none kV__law_box dc__law_box pm__law_box an__law_box cd__law_box ct__law_box), sl__law_box⟩)
    (c__law_box : PySem.W.codeIn K cd__law_box "_law_box" = true)
    (k__law_box : PySem.W.keepIn K (.ref f__law_box) = true)
    (a__law_next : PySem.W.nsIn K mainGlobals "_law_next" = some (some (.ref f__law_next)))
    (l__law_next : K.lookup f__law_next = some ⟨oc__law_next, od__law_next, .func (PySem.W.fnOf "_law_next" "_law_next" (defArgs s__law_next) (defBody s__law_next) (defScope s__law_next) .none kV__law_next dc__law_next pm__law_next an__law_next cd__law_next ct__law_next), sl__law_next⟩)
    (c__law_next : PySem.W.codeIn K cd__law_next "_law_next" = true)
    (k__law_next : PySem.W.keepIn K (.ref f__law_next) = true)
    (a__law_text : PySem.W.nsIn K mainGlobals "_law_text" = some (some (.ref f__law_text)))
    (l__law_text : K.lookup f__law_text = some ⟨oc__law_text, od__law_text, .func (PySem.W.fnOf "_law_text" "_law_text" (defArgs s__law_text) (defBody s__law_text) (defScope s__law_text) .none kV__law_text dc__law_text pm__law_text an__law_text cd__law_text ct__law_text), sl__law_text⟩)
    (c__law_text : PySem.W.codeIn K cd__law_text "_law_text" = true)
    (k__law_text : PySem.W.keepIn K (.ref f__law_text) = true)
    (a__law_is_word : PySem.W.nsIn K mainGlobals "_law_is_word" = some (some (.ref f__law_is_word)))
    (l__law_is_word : K.lookup f__law_is_word = some ⟨oc__law_is_word, od__law_is_word, .func (PySem.W.fnOf "_law_is_word" "_law_is_word" (defArgs s__law_is_word) (defBody s__law_is_word) (defScope s__law_is_word) .none kV__law_is_word dc__law_is_word pm__law_is_word an__law_is_word cd__law_is_word ct__law_is_word), sl__law_is_word⟩)
    (c__law_is_word : PySem.W.codeIn K cd__law_is_word "_law_is_word" = true)
    (k__law_is_word : PySem.W.keepIn K (.ref f__law_is_word) = true)
    (a__law_one : PySem.W.nsIn K mainGlobals "_law_one" = some (some (.ref f__law_one)))
    (l__law_one : K.lookup f__law_one = some ⟨oc__law_one, od__law_one, .func (PySem.W.fnOf "_law_one" "_law_one" (defArgs s__law_one) (defBody s__law_one) (defScope s__law_one) .none kV__law_one dc__law_one pm__law_one an__law_one cd__law_one ct__law_one), sl__law_one⟩)
    (c__law_one : PySem.W.codeIn K cd__law_one "_law_one" = true)
    (k__law_one : PySem.W.keepIn K (.ref f__law_one) = true)
    (a_law : PySem.W.nsIn K mainGlobals "law" = some (some (.ref f_law)))
    (l_law : K.lookup f_law = some ⟨oc_law, od_law, .func (PySem.W.fnOf "law" "law" (defArgs s_law) (defBody s_law) (defScope s_law) .none kV_law dc_law pm_law an_law cd_law ct_law), sl_law⟩)
    (c_law : PySem.W.codeIn K cd_law "law" = true)
    (k_law : PySem.W.keepIn K (.ref f_law) = true)
    (aC_HeldError : PySem.W.nsIn K mainGlobals "HeldError" = some (some (.ref C_HeldError)))
    (aC_BadNumber : PySem.W.nsIn K mainGlobals "BadNumber" = some (some (.ref C_BadNumber)))
    (aC_UnknownName : PySem.W.nsIn K mainGlobals "UnknownName" = some (some (.ref C_UnknownName)))
    (e_opq : PySem.W.nsIn K cStatics "thirdparty.any" = some none)
    (e_cg : PySem.W.specialIn K (.builtin "object.__class__") "__get__" = some (some (.builtin "getset_descriptor.__get__")))
    (e_ct : PySem.W.takesIn K (.builtin "object.__class__") = some true)
    (aC_BadWord : PySem.W.nsIn K mainGlobals "BadWord" = some (some (.ref C_BadWord)))
    (xL_BadWord : K.lookup C_BadWord = some (excClassObj nm_BadWord q_BadWord C_BadWord N_BadWord bs_BadWord bm_BadWord true sn_BadWord sub_BadWord ab_BadWord col_BadWord dd_BadWord m0_BadWord m1_BadWord m2_BadWord m3_BadWord m5_BadWord "ValueError.__new__"))
    (bm_BadWord : PySem.HandSPX.refsVE bm_BadWord = true)
    (sa_BadWord : PySem.W.findIn K (.ref C_BadWord) "__setattr__" = some (some (.builtin "object.__setattr__")))
    (ga_BadWord : PySem.W.findIn K (.ref C_BadWord) "__getattribute__" = some (some (.builtin "BaseException.__getattribute__")))
    (gg_BadWord : PySem.W.findIn K (.ref C_BadWord) "__getattr__" = some none)
    (no_word_BadWord : PySem.W.findIn K (.ref C_BadWord) "word" = some none)
    (iC_BadWord : PySem.W.findIn K (.ref C_BadWord) "__init__" = some (some (.ref fI_BadWord)))
    (tI_BadWord : PySem.W.typeIn K (.ref fI_BadWord) = some (.type "function"))
    (kC_BadWord : PySem.W.keepIn K (.ref C_BadWord) = true)
    (ex_BadWord : PySem.W.subIn K (.ref C_BadWord) (.type "BaseException") = some true)
    (ve_BadWord : PySem.W.subIn K (.ref C_BadWord) (.type "ValueError") = some true)
    (ty_BadWord : PySem.W.typeIn K (.ref C_BadWord) = some (.type "type"))
    (hd_BadWord : PySem.W.hasDictIn K C_BadWord = true)
    (sup_BadWord : PySem.W.ks_superIn K C_BadWord C_BadWord "__init__" = some (some (.builtin "ValueError.__init__")))
    (mro_BadWord : PySem.W.mroIn K C_BadWord (.ref C_BadWord) = some true)
    (su_BadWord : PySem.W.subIn K (.ref C_BadWord) (.ref C_BadWord) = some true)
    (ca_BadWord : PySem.W.findIn K (.ref C_BadWord) "__class__" = some (some (.builtin "object.__class__")))
    (mo_BadWord : PySem.W.mroIn K C_BadWord (.type "object") = some true)
    (l_BadWord : K.lookup fI_BadWord = some ⟨oc_BadWord, od_BadWord, .func (PySem.W.ksFn "__init__" "BadWord.__init__" (defArgs (inClass (topS 2) 0)) (defBody (inClass (topS 2) 0)) (defScope (inClass (topS 2) 0)) .none kV_BadWord dc_BadWord pm_BadWord an_BadWord (.ref cda_BadWord) ct_BadWord cc_BadWord), sl_BadWord⟩)
    (c_BadWord : PySem.W.codeIn K (.ref cda_BadWord) "BadWord.__init__" = true)
    (lc_BadWord : K.lookup cda_BadWord = some ⟨ccl_BadWord, cdd_BadWord, .fields vs_BadWord, ccs_BadWord⟩)
    (v2_BadWord : vs_BadWord[2]? = some (.str file_BadWord tf_BadWord))
    (fl_BadWord : ((P.main.file : Str) == file_BadWord) = true)
    (cc_BadWord : K.lookup cc_BadWord = some ⟨cl_BadWord, cld_BadWord, .cell (some (.ref C_BadWord)), csl_BadWord⟩)
    (k1 : PySem.W.kitOne K (.ref C_BadWord) (.ref C_HeldError) = some true)
    (k2 : PySem.W.kitOne K (.ref C_BadWord) (.type "ValueError") = some true)
    (k3 : PySem.W.kitOne K (.ref C_BadWord) (.ref C_BadNumber) = some false)
    (k4 : PySem.W.kitOne K (.ref C_BadWord) (.ref C_UnknownName) = some false) :
    ∃ fd : FuncData, (∀ (s : Shared) (v : Value), BindsTo s fd ⟨[v], []⟩ [("_law_script", v)]) ∧ ∀ base : Heap, K.In base → base.Ns mainGlobals mg → FnOk P w K mg base CX0 5 fa fd ["_law_script"] (spLaw K) := by
  have e := hfa.symm.trans (PySem.W.mg_of X G a_law)
  cases e
  have B : Bl mg := ⟨PySem.W.mg_none_of X G z_len, PySem.W.mg_none_of X G z_range, PySem.W.mg_none_of X G z_abs, PySem.W.mg_none_of X G z_sum, PySem.W.mg_none_of X G z_sorted, PySem.W.mg_none_of X G z_isinstance, PySem.W.mg_none_of X G z_zip, PySem.W.mg_none_of X G z_enumerate, PySem.W.mg_none_of X G z_reversed, PySem.W.mg_none_of X G z_int, PySem.W.mg_none_of X G z_str, PySem.W.mg_none_of X G z_list, PySem.W.mg_none_of X G z_tuple, PySem.W.mg_none_of X G z_bool, PySem.W.mg_none_of X G z_all, PySem.W.mg_none_of X G z_any, PySem.W.mg_none_of X G z_ValueError⟩
  have g_LETTERS := glo_str X G a_LETTERS
  have g_DIGITS := glo_str X G a_DIGITS
  have g_MOST_SIGNS := glo_int X G a_MOST_SIGNS
  have F_is_word : Src K mg "is_word" s_is_word ["word"] := src_mk X G a_is_word l_is_word c_is_word k_is_word (fun _ _ _ _ _ _ us hl => match us, hl with | [_], _ => rfl)
  have F_check_word : Src K mg "check_word" s_check_word ["word"] := src_mk X G a_check_word l_check_word c_check_word k_check_word (fun _ _ _ _ _ _ us hl => match us, hl with | [_], _ => rfl)
  have F__law_box : Src K mg "_law_box" s__law_box ["_law_script"] := src_mk X G a__law_box l__law_box c__law_box k__law_box (fun _ _ _ _ _ _ us hl => match us, hl with | [_], _ => rfl)
  have F__law_next : Src K mg "_law_next" s__law_next ["_law_box_here", "_law_many"] := src_mk X G a__law_next l__law_next c__law_next k__law_next (fun _ _ _ _ _ _ us hl => match us, hl with | [_, _], _ => rfl)
  have F__law_text : Src K mg "_law_text" s__law_text ["_law_box_here"] := src_mk X G a__law_text l__law_text c__law_text k__law_text (fun _ _ _ _ _ _ us hl => match us, hl with | [_], _ => rfl)
  have F__law_is_word : Src K mg "_law_is_word" s__law_is_word ["_law_text_here"] := src_mk X G a__law_is_word l__law_is_word c__law_is_word k__law_is_word (fun _ _ _ _ _ _ us hl => match us, hl with | [_], _ => rfl)
  have F__law_one : Src K mg "_law_one" s__law_one ["_law_text_here"] := src_mk X G a__law_one l__law_one c__law_one k__law_one (fun _ _ _ _ _ _ us hl => match us, hl with | [_], _ => rfl)
  have g_HeldError := glo_ref X G aC_HeldError
  have g_BadNumber := glo_ref X G aC_BadNumber
  have g_UnknownName := glo_ref X G aC_UnknownName
  have nn_BadWord : ∀ f ∈ (["word"] : List Str), PySem.W.findIn K (.ref C_BadWord) f = some none := fun f hf => by
      simp only [List.mem_cons, List.not_mem_nil, or_false] at hf
      rcases hf with rfl
      · exact no_word_BadWord
  have X_BadWord : ErrTxt P K mg false "BadWord" C_BadWord fI_BadWord ["word"] := err_mk (st := inClass (topS 2) 0) (fp := [("word", _, _, _, _)]) X G aC_BadWord z_super xL_BadWord bm_BadWord sa_BadWord ga_BadWord gg_BadWord nn_BadWord
    iC_BadWord tI_BadWord kC_BadWord ex_BadWord ve_BadWord ty_BadWord hd_BadWord sup_BadWord mro_BadWord su_BadWord ca_BadWord e_cg e_ct mo_BadWord e_opq top l_BadWord c_BadWord lc_BadWord v2_BadWord fl_BadWord cc_BadWord rfl rfl rfl rfl (by decide +kernel) (by decide +kernel) (by decide +kernel) (by decide +kernel) (by decide +kernel) (by decide +kernel) (by decide +kernel) rfl rfl rfl
    (fun _ _ _ _ _ _ _ s x us hl => match us, hl with | [_], _ => .of_eq rfl) (fun x us hl => match us, hl with | [_], _ => ⟨by rfl, .cons (by rfl) (.nil)⟩) (.inl ⟨rfl, _, _, _, rfl⟩)
  refine ⟨PySem.W.fnOf "law" "law" (defArgs s_law) (defBody s_law) (defScope s_law) .none kV_law dc_law pm_law an_law cd_law ct_law, fun s v => .of_eq rfl, fun base hK hN => ?_⟩
  have D1 : Def P w K mg base CX0 1 "_law_next" _ spNext := ok_next B F__law_next
  have D2 : Def P w K mg base CX0 1 "_law_box" _ (spBox K) := ok_box B F__law_box
  have D3 : Def P w K mg base CX0 2 "_law_text" _ spText := ok_text B D1 F__law_text
  have D4 : Def P w K mg base CX0 1 "_law_is_word" _ spIs := ok_is B F__law_is_word
  have D5 : Def P w K mg base CX0 2 "is_word" _ spIsWord := ok_is_word B g_LETTERS g_DIGITS g_MOST_SIGNS F_is_word
  have D6 : Def P w K mg base (L2.CX P w) 3 "check_word" _ (spCheckWord C_BadWord) := ok_check_word X_BadWord D5 F_check_word
  have D7 : Def P w K mg base CX0 4 "_law_one" _ spOne := ok_one B X_BadWord g_HeldError g_BadNumber g_UnknownName k1 k2 k3 k4 D6 (D4.mono (by decide)) F__law_one
  exact ok_law B (D2.mono (by decide)) (D3.mono (by decide)) D7 (fun_mk l_law c_law k_law)
theorem walk {l : PySem.W.OpenLaw} {q : Program} {loose : List Str} {XP : (Str → Option Value) → Heap → Prop} {YP : World → Heap → Prop} {d : DefRec} {K : Params → PySem.W.Frag} (hn : l.most = some 63) (hdf : d.params.defaults = [])
    (hY : ∀ (w : World) (h : Heap), YP w h → (K w.params).In h)
    (F : ∀ (w : World) (mg : Str → Option Value) (fa : Addr) (h : Heap), (K w.params).In h → h.Ns mainGlobals mg → mg d.name = some (.ref fa) →
      ∃ fd : FuncData, (∀ (s : Shared) (u : Value), BindsTo s fd ⟨[u], []⟩ [("_law_script", u)]) ∧ ∀ base : Heap, (K w.params).In base → base.Ns mainGlobals mg → FnOk l.prog w (K w.params) mg base CX0 5 fa fd ["_law_script"] (spLaw (K w.params))) :
    PySem.W.WalkO q loose XP YP l.row.toRowW d [] (fun f vs => PySem.call f vs) :=
  L2.walk_of (n := 63) (k := 5) (x := "_law_script") (CX := fun _ => CX0) (sp := fun w => spLaw (K w.params)) hn (by decide) hdf ⟨rfl, by decide, by decide⟩ hY F (fun _ _ a ns hl _ hS => ⟨a, ns, rfl, hS, hl, fun _ => rfl⟩) fun _ _ _ _ _ z => z
end Held

open PySem PySem.W PyProof.Rows in
set_option maxRecDepth 100000 in
set_option maxHeartbeats 0 in
theorem PySem.Challenge.cw_heldsteps_k01_words_checked_holds : PySem.Challenge.rw_heldsteps_k01_words_checked.Holds := by
  w_on; o_law; k_head; (case hw => w_witness2)
  k_fill
  refine Held.walk (l := PySem.Challenge.rw_heldsteps_k01_words_checked) rfl rfl (fun w h Y => PySem.W.kIn_of Y) ?F
  case F =>
    intro w mg fa h KX G hmg
    refine' Held.all_mk KX G hmg (by decide +kernel) ?z_len ?z_range ?z_abs ?z_sum ?z_sorted ?z_isinstance ?z_zip ?z_enumerate ?z_reversed ?z_int ?z_str ?z_list ?z_tuple ?z_bool ?z_all ?z_any ?z_ValueError ?z_super ?a_LETTERS ?a_DIGITS ?a_MOST_SIGNS ?a_is_word ?l_is_word ?c_is_word ?k_is_word ?a_check_word ?l_check_word ?c_check_word ?k_check_word ?a__law_box ?l__law_box ?c__law_box ?k__law_box ?a__law_next ?l__law_next ?c__law_next ?k__law_next ?a__law_text ?l__law_text ?c__law_text ?k__law_text ?a__law_is_word ?l__law_is_word ?c__law_is_word ?k__law_is_word ?a__law_one ?l__law_one ?c__law_one ?k__law_one ?a_law ?l_law ?c_law ?k_law ?aC_HeldError ?aC_BadNumber ?aC_UnknownName ?e_opq ?e_cg ?e_ct ?aC_BadWord ?xL_BadWord ?bm_BadWord ?sa_BadWord ?ga_BadWord ?gg_BadWord ?no_word_BadWord ?iC_BadWord ?tI_BadWord ?kC_BadWord ?ex_BadWord ?ve_BadWord ?ty_BadWord ?hd_BadWord ?sup_BadWord ?mro_BadWord ?su_BadWord ?ca_BadWord ?mo_BadWord ?l_BadWord ?c_BadWord ?lc_BadWord ?v2_BadWord ?fl_BadWord ?cc_BadWord ?k1 ?k2 ?k3 ?k4
    (case z_len => k_is)
    (case z_range => k_is)
    (case z_abs => k_is)
    (case z_sum => k_is)
    (case z_sorted => k_is)
    (case z_isinstance => k_is)
    (case z_zip => k_is)
    (case z_enumerate => k_is)
    (case z_reversed => k_is)
    (case z_int => k_is)
    (case z_str => k_is)
    (case z_list => k_is)
    (case z_tuple => k_is)
    (case z_bool => k_is)
    (case z_all => k_is)
    (case z_any => k_is)
    (case z_ValueError => k_is)
    (case z_super => k_is)
    (case a_LETTERS => k_is)
    (case a_DIGITS => k_is)
    (case a_MOST_SIGNS => k_is)
    (case a_is_word => k_is)
    (case l_is_word => k_is)
    (case c_is_word => k_is)
    (case k_is_word => k_is)
    (case a_check_word => k_is)
    (case l_check_word => k_is)
    (case c_check_word => k_is)
    (case k_check_word => k_is)
    (case a__law_box => k_is)
    (case l__law_box => k_is)
    (case c__law_box => k_is)
    (case k__law_box => k_is)
    (case a__law_next => k_is)
    (case l__law_next => k_is)
    (case c__law_next => k_is)
    (case k__law_next => k_is)
    (case a__law_text => k_is)
    (case l__law_text => k_is)
    (case c__law_text => k_is)
    (case k__law_text => k_is)
    (case a__law_is_word => k_is)
    (case l__law_is_word => k_is)
    (case c__law_is_word => k_is)
    (case k__law_is_word => k_is)
    (case a__law_one => k_is)
    (case l__law_one => k_is)
    (case c__law_one => k_is)
    (case k__law_one => k_is)
    (case a_law => k_is)
    (case l_law => k_is)
    (case c_law => k_is)
    (case k_law => k_is)
    (case aC_HeldError => k_is)
    (case aC_BadNumber => k_is)
    (case aC_UnknownName => k_is)
    (case e_opq => k_is)
    (case e_cg => k_is)
    (case e_ct => k_is)
    (case aC_BadWord => k_is)
    (case xL_BadWord => k_is)
    (case bm_BadWord => rfl)
    (case sa_BadWord => k_is)
    (case ga_BadWord => k_is)
    (case gg_BadWord => k_is)
    (case no_word_BadWord => k_is)
    (case iC_BadWord => k_is)
    (case tI_BadWord => k_is)
    (case kC_BadWord => k_is)
    (case ex_BadWord => k_is)
    (case ve_BadWord => k_is)
    (case ty_BadWord => k_is)
    (case hd_BadWord => k_is)
    (case sup_BadWord => ks_is)
    (case mro_BadWord => k_is)
    (case su_BadWord => first | rfl | k_is)
    (case ca_BadWord => k_is)
    (case mo_BadWord => k_is)
    (case l_BadWord => k_is)
    (case c_BadWord => k_is)
    (case lc_BadWord => k_is)
    (case v2_BadWord => rfl)
    (case fl_BadWord => first | rfl | decide +kernel)
    (case cc_BadWord => k_is)
    (case k1 => kit_is)
    (case k2 => kit_is)
    (case k3 => kit_is)
    (case k4 => kit_is)
#print axioms PySem.Challenge.cw_heldsteps_k01_words_checked_holds